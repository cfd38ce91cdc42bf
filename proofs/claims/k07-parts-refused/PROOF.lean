import PyProof.Rows.All
import Wide.All
import OpenK.AllK
import Wide.FinOn
import HandS.ForMost
import HandS.Wide
import HandS.IsInst
import HandS.Flow
import HandS.Defaults
import HandS.Walk
import HandS.TupAny
import HandS.StrMore
import HandS.HeadEnd
import PyProof.ReprRoads
import HandS.ExcInit
import HandS.ExcField
import HandS.ExcIs
import KE.KExcIs
import HandS.HeadHook1
import HandS.ExcOwn
import HandS.Property
import HandS.Star
import KE.KCallOwn
import KE.KOpsOwn
import HandS.DictComp
import HandS.Iter
import PyProof.StrLawsRepr
import HandS.GenList
import PyProof.DictWalks
import HandS.Head0
import HandS.Head1
import HandS.Head2
import HandS.HeadHook2
import HandS.HeadHook3
import HandS.HeadHook4
import HandS.HeadNt
import HandS.Exc
import HandS.TryMany
import HandS.Style
import HandS.Zip
import HandS.RaiseMore
import PyProof.AutoSeq1
import HandS.Deep
import PySem.Challenge.RW_unseenwrites_k07_parts_refused
set_option Elab.async false
set_option linter.all false
set_option maxRecDepth 100000
set_option maxHeartbeats 4000000
namespace Ub
open PySem PySem.Spec PyProof.Rows L2
section
variable {X : Cx}
/-! ### rules that the layer lacks -/
/-- xs[i] as a value behind an operator's store, i not below 0 -/
theorem get_list : PGet X (fun x y H Q => ∃ p xs i v, x = .ref p ∧ y = .int i ∧ SqL X.K H p xs ∧ 0 ≤ i ∧ xs[i.toNat]? = some v ∧ Q v H) := by
  intro pins s σ H x y v u Q I rx ry h
  obtain ⟨p, xs, i, z, rfl, rfl, hq, h0, he, q⟩ := h
  cases rx
  obtain ⟨t, rfl⟩ := ry
  obtain ⟨its, r, pl, hz⟩ := I.list hq
  obtain ⟨w, ew, rw'⟩ := r.get he
  have hn := line63
  have hlt : i.toNat < xs.length := (List.getElem?_eq_some_iff.mp he).1
  have fin : EP X pins σ Q w s := ⟨z, H, I, rw', q⟩
  exact wpAny_getItem_list pl.isList h0 (by omega) (by simpa using ew) fin
/-- a text times a number -/
theorem op_mul_si : OpR X (binaryOp .Mult) (fun x y H Q => ∃ (z : Str) (n : Int) (L N : Nat), x = .str z ∧ y = .int n ∧ z.length ≤ L ∧ 0 ≤ n ∧ n ≤ (N : Int) ∧ N ≤ 16777216 ∧ L * N ≤ 16777216 ∧ Q (.str (Txt.mul z n)) H) := by
  intro pins s σ H x y v u Q I rx ry h
  obtain ⟨z, n, L, N, rfl, rfl, h1, h0, h2, h3, h4, q⟩ := h
  obtain ⟨t, rfl⟩ := rx
  obtain ⟨t', rfl⟩ := ry
  exact SB.mul (mulOk_of L N h1 h2 (by omega) h3 h4) fun t' k => ⟨.str (Txt.mul z n), H, I.tok _, ⟨_, rfl⟩, q⟩
theorem signs_vals (x : Str) : ∀ (acc : List Value) (i : Nat), (∀ (j : Nat) v, acc[j]? = some v → SignAt x (i + j) v) → acc.length + i = x.cps.size → Vals ((x.cps.toList.drop i).map fun c => V.str ⟨#[c]⟩) acc
  | [], i, _, hl => by
    have e : x.cps.toList.drop i = [] := List.drop_of_length_le (by simp at hl ⊢; omega)
    rw [e]
    exact .nil
  | v :: r, i, h, hl => by
    obtain ⟨c, u, e1, e2⟩ := h 0 v rfl
    have e3 : x.cps.toList[i]? = some c := by simpa using e1
    have hi : i < x.cps.toList.length := (List.getElem?_eq_some_iff.mp e3).1
    rw [List.drop_eq_getElem_cons hi, List.map_cons]
    have e4 : x.cps.toList[i] = c := (List.getElem?_eq_some_iff.mp e3).2
    rw [e4]
    refine .cons ⟨u, e2⟩ (signs_vals x r (i + 1) (fun j w e => ?_) (by simp at hl ⊢; omega))
    have := h (j + 1) w (by simpa using e)
    rw [show i + 1 + j = i + (j + 1) by omega]
    exact this
/-- list(text) -/
theorem call_list_str (hc : X.calm = true) : CallR X (.type "list") (fun xs H Q => ∃ z : Str, xs = [.str z] ∧ z.length ≤ sizeLine ∧ ∀ l, H l = none → Q (.ref l) (upd H l (.lst (z.cps.toList.map fun c => V.str ⟨#[c]⟩)))) := by
  intro pins s σ H xs us Q I r h
  obtain ⟨z, rfl, hz, q⟩ := h
  obtain ⟨u, rfl, t, rfl⟩ := vals1 r
  have hz2 : z.cps.size ≤ sizeLine := hz
  refine PySem.call_list_str (I.ok.hd hc) z t (fun h' tk acc' c' kp e hacc => ?_) hz2
  have hv : Vals (z.cps.toList.map fun c => V.str ⟨#[c]⟩) acc'.toList := by
    have := signs_vals z acc'.toList 0 (fun j v hj => by
      rw [Nat.zero_add]
      exact hacc.2 j v (by simpa using hj)) (by simpa using hacc.1)
    simpa using this
  refine ⟨.ref s.heap.objs.size, upd H s.heap.objs.size (.lst (z.cps.toList.map fun c => V.str ⟨#[c]⟩)), I.laid (t' := tk) kp (Nat.le_refl _) (show ObjOk X.prog X.w _ _ _ (.lst (z.cps.toList.map fun c => V.str ⟨#[c]⟩)) from ⟨by simpa using hz2, acc'.toList, c', hv, by rw [Array.toArray_toList]; exact e⟩), rfl, q _ (I.hok.fresh (Nat.le_refl _))⟩
end
/-! ### a def by its name -/
structure Cal (P : Program) (w : World) (K : PySem.W.Frag) (mg : Str → Option Value) (base : Heap) (k : Nat) (x : Str) (ps : List Str) (sp : Sp) : Prop where
  ex : ∃ f fd, FnOk P w K mg base CX0 k f fd ps sp ∧ mg x = some (.ref f) ∧ PySem.W.keepIn K (.ref f) = true ∧ Binds K fd ps []
section
variable {X : Cx} {k : Nat} {x : Str} {ps : List Str} {sp : Sp} {e : Expr} {es : List Expr} {p pos : Pos} {t : TA}
theorem pe_cal (C : Cal X.prog X.w X.K X.mg X.base k x ps sp) (hr : Room k X.A) (hg : Gl X x)
    (ha : PA X (e :: es) t) (hdb : (x == ("__debug__" : Str)) = false := by decide) (he : starEach (e :: es) X.env = (false, eval e X.env) :: starEach es X.env := by rfl) (hpl : (backTo pos (starEach es X.env)).any (·.1) = false := by rfl) :
    PE X (.Call (.Name x p) (e :: es) [] pos) (tCall sp [] E0 t) := by
  obtain ⟨f, fd, F, hm, hk, hb⟩ := C.ex
  exact pe_call F hr hg hm hk hb .nil pass0 ha hdb he hpl
theorem Cal.mono {P : Program} {w : World} {K : PySem.W.Frag} {mg : Str → Option Value} {base : Heap} {j k : Nat} (C : Cal P w K mg base j x ps sp) (h : j ≤ k) : Cal P w K mg base k x ps sp := by
  obtain ⟨f, fd, F, hm, hk, hb⟩ := C.ex
  exact ⟨f, fd, F.mono h, hm, hk, hb⟩
end
/-- a def with defaults, called with fewer arguments -/
structure CalD (P : Program) (w : World) (K : PySem.W.Frag) (mg : Str → Option Value) (base : Heap) (k : Nat) (x : Str) (ps : List Str) (dvs : List V) (sp : Sp) : Prop where
  ex : ∃ f fd ds, FnOk P w K mg base CX0 k f fd ps sp ∧ mg x = some (.ref f) ∧ PySem.W.keepIn K (.ref f) = true ∧ Binds K fd ps ds ∧ Vals dvs ds
theorem pe_calD {X : Cx} {k : Nat} {x : Str} {ps : List Str} {dvs : List V} {sp : Sp} {e : Expr} {es : List Expr} {p pos : Pos} {t : TA} (C : CalD X.prog X.w X.K X.mg X.base k x ps dvs sp) (hr : Room k X.A) (hg : Gl X x)
    (ha : PA X (e :: es) t) (hdb : (x == ("__debug__" : Str)) = false := by decide) (he : starEach (e :: es) X.env = (false, eval e X.env) :: starEach es X.env := by rfl) (hpl : (backTo pos (starEach es X.env)).any (·.1) = false := by rfl) :
    PE X (.Call (.Name x p) (e :: es) [] pos) (tCall sp dvs E0 t) := by
  obtain ⟨f, fd, ds, F, hm, hk, hb, hd⟩ := C.ex
  exact pe_call F hr hg hm hk hb hd pass0 ha hdb he hpl
/-! ### heaps -/
theorem same_upd {H : Hp} {p : Addr} {o : HO} (h : H p = none) : Same H (upd H p o) := fun b x e => by
  rw [upd_ne (ne_of_none e h)]
  exact e
theorem Same.tup {K : PySem.W.Frag} {H H' : Hp} {a : Addr} {xs : List V} (e : Same H H') (h : SqT K H a xs) : SqT K H' a xs := by
  rcases h with (h | ⟨o, h⟩) | h
  · exact .inl (.inl (e _ _ h))
  · exact .inl (.inr ⟨o, e _ _ h⟩)
  · exact .inr h
/-! ### names of the module by what they hold -/
section
variable {X : Cx} {x : Str} {pos : Pos}
theorem pe_globI {i : Int} (hg : Gl X x) (hm : ∃ t, X.mg x = some (.int i t)) (hd : (x == ("__debug__" : Str)) = false := by decide) : PE X (.Name x pos) (tC (.int i)) := by
  obtain ⟨t, hm⟩ := hm
  exact pe_glob hg hm ⟨t, rfl⟩ hd
theorem pe_globS {z : Str} (hg : Gl X x) (hm : ∃ t, X.mg x = some (.str z t)) (hd : (x == ("__debug__" : Str)) = false := by decide) : PE X (.Name x pos) (tC (.str z)) := by
  obtain ⟨t, hm⟩ := hm
  exact pe_glob hg hm ⟨t, rfl⟩ hd
theorem pe_globR {a : Addr} (hg : Gl X x) (hm : X.mg x = some (.ref a)) (hd : (x == ("__debug__" : Str)) = false := by decide) : PE X (.Name x pos) (tC (.ref a)) := pe_glob hg hm rfl hd
end
/-! ### the rules with the written part named -/
section
variable {X : Cx} {K : PySem.W.Frag}
theorem op_in_seqK (K : PySem.W.Frag) (e : X.K = K := by rfl) : OpR X (compareOp .In) (rIn K false) := e ▸ op_in_seq
theorem op_notIn_seqK (K : PySem.W.Frag) (e : X.K = K := by rfl) : OpR X (compareOp .NotIn) (rIn K true) := e ▸ op_notIn_seq
theorem op_eqDK (K : PySem.W.Frag) (hu : X.A.units + 64 < cLine) (e : X.K = K := by rfl) : OpR X (compareOp .Eq) (rEqD K) := e ▸ op_eqD hu
theorem op_neDK (K : PySem.W.Frag) (hu : X.A.units + 64 < cLine) (e : X.K = K := by rfl) : OpR X (compareOp .NotEq) (rNeD K) := e ▸ op_neD hu
theorem op_catAK (K : PySem.W.Frag) (e : X.K = K := by rfl) : OpR X (binaryOp .Add) (rCatA K) := e ▸ op_catA
theorem ix_listK (K : PySem.W.Frag) (e : X.K = K := by rfl) : IxR X (rIxL K) := e ▸ ix_list
theorem ix_tupK (K : PySem.W.Frag) (e : X.K = K := by rfl) : IxR X (rIxT K) := e ▸ ix_tup
theorem sl_listK (K : PySem.W.Frag) (e : X.K = K := by rfl) : SlR X (rSlL K) := e ▸ sl_list
theorem sl_tupAK (K : PySem.W.Frag) (e : X.K = K := by rfl) : SlR X (rSlA K) := e ▸ sl_tupA
def rLenQ (K : PySem.W.Frag) : List V → Hp → VK → Prop := fun xs H Q => ∃ p ys, xs = [.ref p] ∧ (SqL K H p ys ∨ SqT K H p ys) ∧ Q (.int ys.length) H
theorem call_len_seqK (K : PySem.W.Frag) (e : X.K = K := by rfl) : CallR X (.builtin "len") (rLenQ K) := e ▸ call_len_seq
def rListQ (K : PySem.W.Frag) : List V → Hp → VK → Prop := fun xs H Q => ∃ p ys, xs = [.ref p] ∧ (SqL K H p ys ∨ SqT K H p ys) ∧ ∀ l, H l = none → Q (.ref l) (upd H l (.lst ys))
theorem call_list_ofK (K : PySem.W.Frag) (e : X.K = K := by rfl) : CallR X (.type "list") (rListQ K) := e ▸ call_list_of
def rTupQ (K : PySem.W.Frag) : List V → Hp → VK → Prop := fun xs H Q => ∃ p ys, xs = [.ref p] ∧ ((SqL K H p ys ∧ ∀ l, H l = none → Q (.ref l) (upd H l (.tup ys))) ∨ (SqT K H p ys ∧ Q (.ref p) H))
theorem call_tuple_ofK (K : PySem.W.Frag) (e : X.K = K := by rfl) : CallR X (.type "tuple") (rTupQ K) := e ▸ call_tuple_of
theorem call_isiK' (K : PySem.W.Frag) (e : X.K = K := by rfl) : CallR X (.builtin "isinstance") (rIsi K) := e ▸ call_isi
theorem cr_allK (K : PySem.W.Frag) (hc : X.calm = true) (e : X.K = K := by rfl) : CallR X (.builtin "all") (rAll K) := e ▸ cr_all hc
theorem cr_anyK (K : PySem.W.Frag) (hc : X.calm = true) (e : X.K = K := by rfl) : CallR X (.builtin "any") (rAny K) := e ▸ cr_any hc
theorem cr_sumK (K : PySem.W.Frag) (hc : X.calm = true) (e : X.K = K := by rfl) : CallR X (.builtin "sum") (rSum K) := e ▸ cr_sum hc
theorem cr_maxK (K : PySem.W.Frag) (hc : X.calm = true) (e : X.K = K := by rfl) : CallR X (.builtin "max") (rMax K) := e ▸ cr_max hc
theorem cr_minK (K : PySem.W.Frag) (hc : X.calm = true) (e : X.K = K := by rfl) : CallR X (.builtin "min") (rMin K) := e ▸ cr_min hc
def rGetL (K : PySem.W.Frag) : V → V → Hp → VK → Prop := fun x y H Q => ∃ p xs i v, x = .ref p ∧ y = .int i ∧ SqL K H p xs ∧ 0 ≤ i ∧ xs[i.toNat]? = some v ∧ Q v H
theorem get_listK (K : PySem.W.Frag) (e : X.K = K := by rfl) : PGet X (rGetL K) := e ▸ get_list
theorem pi_listK (K : PySem.W.Frag) {tg l : Expr} {tl : TE} (hl : PE X l tl) (e : X.K = K := by rfl) : PI X tg l (iList K tl) := e ▸ pi_list hl
theorem pi_tupK (K : PySem.W.Frag) {tg l : Expr} {tl : TE} (hl : PE X l tl) (e : X.K = K := by rfl) : PI X tg l (iTup K tl) := e ▸ pi_tup hl
theorem pt_truthK (K : PySem.W.Frag) {a : Expr} {ta : TE} (ha : PE X a ta) (he : ∀ whole, isTrue a X.env whole = (do let v ← whole; standAt a.pos; holding [v] (truthy v))) (e : X.K = K := by rfl) : PT X a (fun σ H Q => ta σ H fun x H' => ∃ k, TruV K x H' k ∧ Q k H') := e ▸ pt_truth ha he
theorem pe_fldK (K : PySem.W.Frag) {e0 : Expr} {ta : TE} {f : Str} {pos : Pos} (he : PE X e0 ta) (hb : attributeBase e0 f X.env (eval e0 X.env) = eval e0 X.env) (e : X.K = K := by rfl) : PE X (.Attribute e0 f pos) (tFld K ta f) := e ▸ pe_fld he hb
theorem pe_bmK (K : PySem.W.Frag) {o e0 : Expr} {es : List Expr} {to : TE} {t : TA} {name : Str} {apos cpos : Pos} {T id : String} {r : V → List V → Hp → VK → Prop} (pa : PlainAttrs T) (slot : Slot T name id) (hty : typeOf (.builtin id) = pure (.type "method_descriptor")) (hm : MtR X id r) (ho : PE X o to) (ha : PA X (e0 :: es) t)
    (hbase : attributeBase o name X.env (eval o X.env) = eval o X.env := by rfl)
    (hfew : ((backTo cpos (starEach (e0 :: es) X.env)).all (fun x => !x.1) && (backToKw cpos (keywordEach [] X.env)).all (fun x => x.1.isSome)
      && decide ((e0 :: es).length + ([] : List Keyword).length + (if ([] : List Keyword).isEmpty then 0 else 1) < 30)) = true := by rfl)
    (hline : (apos.endLine == cpos.line) = true := by rfl) (hs : starEach (e0 :: es) X.env = (false, eval e0 X.env) :: starEach es X.env := by rfl) (hplain : (backTo cpos (starEach es X.env)).any (·.1) = false := by rfl) (e : X.K = K := by rfl) :
    PE X (.Call (.Attribute o name apos) (e0 :: es) [] cpos) (tBM K T r to t) := e ▸ pe_bm pa slot hty hm ho ha hbase hfew hline hs hplain
theorem pe_bm0K (K : PySem.W.Frag) {o : Expr} {to : TE} {name : Str} {apos cpos : Pos} {T id : String} {r : V → List V → Hp → VK → Prop} (pa : PlainAttrs T) (slot : Slot T name id) (hty : typeOf (.builtin id) = pure (.type "method_descriptor")) (hm : MtR X id r) (ho : PE X o to)
    (hbase : attributeBase o name X.env (eval o X.env) = eval o X.env := by rfl) (hline : (apos.endLine == cpos.line) = true := by rfl) (e : X.K = K := by rfl) : PE X (.Call (.Attribute o name apos) [] [] cpos) (tBM0 K T r to) := e ▸ pe_bm0 pa slot hty hm ho hbase hline
end
theorem units1 {k : Nat} {A : Around} (r : Room k A) : A.units + 1 < cLine := by have := r.un; omega
/-- the heap by a name -/
theorem absH {G : Hp → Prop} {H' : Hp} (h : ∀ H'', H'' = H' → G H'') : G H' := h _ rfl
/-! ### ways that meet -/
theorem joinE {te : TE} {σ : L2.St} {H : Hp} {Q : VK} (R : VK) (hR : ∀ Q' : VK, (∀ v H', R v H' → Q' v H') → te σ H Q') (hQ : ∀ v H', R v H' → Q v H') : te σ H Q := hR Q hQ
theorem asgJ {te : TE} {g : TG} {D : Ends} {σ : L2.St} {H : Hp} (R : VK) (hR : ∀ Q' : VK, (∀ v H', R v H' → Q' v H') → te σ H Q') (hQ : ∀ v H', R v H' → g v σ H' D.nx) : tAsg te g D σ H := hR _ hQ
theorem asgS {te : TE} {g : TG} {u : TS} {D : Ends} {σ : L2.St} {H : Hp} (R : VK) (hR : ∀ Q' : VK, (∀ v H', R v H' → Q' v H') → te σ H Q') (hQ : ∀ v H', R v H' → g v σ H' (u D)) : tSeq (tAsg te g) u D σ H := hR _ hQ
theorem seqJ {t u : TS} {D : Ends} {σ : L2.St} {H : Hp} (R : L2.St → Hp → Prop) (hR : ∀ D' : Ends, (∀ σ' H', R σ' H' → D'.nx σ' H') → D'.rt = D.rt → D'.bk = D.bk → D'.ct = D.ct → t D' σ H) (hQ : ∀ σ' H', R σ' H' → u D σ' H') : tSeq t u D σ H := hR _ hQ rfl rfl rfl
theorem nextI {D : Ends} {σ : L2.St} {H : Hp} (h : D.nx σ H) : tNext D σ H := h
theorem at0 {α : Type} {x : α} {xs : List α} : atI (x :: xs) 0 = some x := atI_nat (j := 0) rfl
theorem ix0 {n : Nat} : ixN (n + 1) 0 = some 0 := by
  unfold ixN
  rw [if_pos (by decide), if_pos (by omega)]
  rfl
/-! ### comprehensions whose elements are values of their items -/
theorem fm_take {xs : List V} {f : V → Option V} {i : Nat} {x : V} (h : xs[i]? = some x) : (xs.take (i + 1)).filterMap f = (xs.take i).filterMap f ++ (f x).toList := by
  rw [List.take_add_one, h, List.filterMap_append]
  cases e : f x <;> simp [e]
theorem fm_len (xs : List V) (f : V → Option V) : (xs.filterMap f).length ≤ xs.length := List.length_filterMap_le f xs
section
variable {K : PySem.W.Frag} {a : Addr} {g : TG} {tt : TT} {te : TE} {vs : List Nat} {σ : L2.St} {H1 : Hp} {D : Addr} {Qd : Hp → Prop}
def LcTurn (g : TG) (tt : TT) (te : TE) (vs : List Nat) (σ : L2.St) (f : V → Option V) (x : V) (H : Hp) : Prop := ∀ (Q1 : VK) (Q0 : Hp → Prop), (∀ y H', f x = some y → Same H H' → Q1 y H') → (∀ H', f x = none → Same H H' → Q0 H') →
  g x (wipe σ vs) H fun σ2 H2 => wipe σ2 vs = wipe σ vs ∧ tt σ2 H2 fun b H3 => if b = true then te σ2 H3 Q1 else Q0 H3
theorem lc_step {xs : List V} {f : V → Option V} {i : Nat} {x : V} {H : Hp} (hx : xs[i]? = some x) (hz : xs.length ≤ sizeLine) (hD : H1 D = none) (s : Same H1 H) (d : H D = some (.lst ((xs.take i).filterMap f))) (t : LcTurn g tt te vs σ f x H) :
    g x (wipe σ vs) H fun σ2 H2 => wipe σ2 vs = wipe σ vs ∧ tt σ2 H2 fun b H3 => if b = true then te σ2 H3 fun y H4 => ∃ acc, H4 D = some (.lst acc) ∧ acc.length < sizeLine ∧ (Same H1 (upd H4 D (.lst (acc ++ [y]))) ∧ (upd H4 D (.lst (acc ++ [y]))) D = some (.lst ((xs.take (i + 1)).filterMap f))) else (Same H1 H3 ∧ H3 D = some (.lst ((xs.take (i + 1)).filterMap f))) := by
  have hi : i < xs.length := (List.getElem?_eq_some_iff.mp hx).1
  refine t (fun y H4 => ∃ acc, H4 D = some (.lst acc) ∧ acc.length < sizeLine ∧ (Same H1 (upd H4 D (.lst (acc ++ [y]))) ∧ (upd H4 D (.lst (acc ++ [y]))) D = some (.lst ((xs.take (i + 1)).filterMap f)))) (fun H3 => Same H1 H3 ∧ H3 D = some (.lst ((xs.take (i + 1)).filterMap f))) (fun y H' e s' => ?_) (fun H' e s' => ?_)
  · refine ⟨_, s' _ _ d, ?_, fun b o q => ?_, ?_⟩
    · have h1 := fm_len (xs.take i) f
      rw [List.length_take] at h1
      omega
    · rw [upd_ne (ne_of_none q hD)]
      exact s' _ _ (s _ _ q)
    · rw [upd_same, fm_take hx, e]
      rfl
  · refine ⟨s.trans s', ?_⟩
    rw [fm_take hx, e, s' _ _ d]
    simp
theorem lcW {J : It} {G : Hp → Prop} {xs : List V} (w : Walk J xs.length G (YAt xs)) (f : V → Option V) (hG : ∀ H, Same H1 H → G H) (hz : xs.length ≤ sizeLine) (hD : H1 D = none) (turn : ∀ (i : Nat) x H, xs[i]? = some x → Same H1 H → LcTurn g tt te vs σ f x H)
    (done : ∀ H', Same H1 H' → H' D = some (.lst (xs.filterMap f)) → Qd H') :
    ∃ W : Nat → Nat → Hp → Prop, (∃ m, W 0 m (upd H1 D (.lst []))) ∧ ∀ i m H, W i m H →
      (J.stop i H ∧ Qd H) ∨ (J.go i H ∧ ∃ Nx : Hp → Prop, (∀ H', Nx H' → ∃ m', m' < m ∧ W (i + 1) m' H') ∧ ∀ x H', J.yld i H x H' → g x (wipe σ vs) H' fun σ2 H2 => wipe σ2 vs = wipe σ vs ∧ tt σ2 H2 fun b H3 =>
        if b = true then te σ2 H3 fun y H4 => ∃ acc, H4 D = some (.lst acc) ∧ acc.length < sizeLine ∧ Nx (upd H4 D (.lst (acc ++ [y]))) else Nx H3) :=
  lc_it w (fun i H => Same H1 H ∧ H D = some (.lst ((xs.take i).filterMap f))) ⟨same_upd hD, upd_same⟩ (fun i H _ p => hG H p.1) (fun i x H H' _ p y => by
    obtain ⟨rfl, hx⟩ := y
    exact lc_step hx hz hD p.1 p.2 (turn i x _ hx p.1)) (fun H p => done H p.1 (by have := p.2; rwa [List.take_length] at this))
end
/-- a comprehension by a list of what its items stand for -/
theorem lcM {g : TG} {tt : TT} {te : TE} {vs : List Nat} {σ : L2.St} {H1 : Hp} {D : Addr} {Qd : Hp → Prop} {J : It} {G : Hp → Prop} {xs : List V} {α : Type} (w : Walk J xs.length G (YAt xs)) (ms : List α) (hl : ms.length = xs.length) (h : α → Option V) (hG : ∀ H, Same H1 H → G H) (hz : xs.length ≤ sizeLine) (hD : H1 D = none)
    (turn : ∀ (i : Nat) x m H, xs[i]? = some x → ms[i]? = some m → Same H1 H → LcTurn g tt te vs σ (fun _ => h m) x H)
    (done : ∀ H', Same H1 H' → H' D = some (.lst (ms.filterMap h)) → Qd H') :
    ∃ W : Nat → Nat → Hp → Prop, (∃ m, W 0 m (upd H1 D (.lst []))) ∧ ∀ i m H, W i m H →
      (J.stop i H ∧ Qd H) ∨ (J.go i H ∧ ∃ Nx : Hp → Prop, (∀ H', Nx H' → ∃ m', m' < m ∧ W (i + 1) m' H') ∧ ∀ x H', J.yld i H x H' → g x (wipe σ vs) H' fun σ2 H2 => wipe σ2 vs = wipe σ vs ∧ tt σ2 H2 fun b H3 =>
        if b = true then te σ2 H3 fun y H4 => ∃ acc, H4 D = some (.lst acc) ∧ acc.length < sizeLine ∧ Nx (upd H4 D (.lst (acc ++ [y]))) else Nx H3) :=
  lc_it w (fun i H => Same H1 H ∧ H D = some (.lst ((ms.take i).filterMap h))) ⟨same_upd hD, upd_same⟩ (fun i H _ p => hG H p.1) (fun i x H H' hi p y => by
    obtain ⟨rfl, hx⟩ := y
    have him : i < ms.length := by omega
    have hm : ms[i]? = some ms[i] := List.getElem?_eq_getElem him
    have et : (ms.take (i + 1)).filterMap h = (ms.take i).filterMap h ++ (h ms[i]).toList := by
      rw [List.take_add_one, hm, List.filterMap_append]
      cases e : h ms[i] <;> simp [e]
    have ln : ((ms.take i).filterMap h).length ≤ i := by
      have := List.length_filterMap_le h (ms.take i)
      rw [List.length_take] at this
      omega
    refine turn i x _ _ hx hm p.1 (fun y H4 => ∃ acc, H4 D = some (.lst acc) ∧ acc.length < sizeLine ∧ (Same H1 (upd H4 D (.lst (acc ++ [y]))) ∧ (upd H4 D (.lst (acc ++ [y]))) D = some (.lst ((ms.take (i + 1)).filterMap h)))) (fun H3 => Same H1 H3 ∧ H3 D = some (.lst ((ms.take (i + 1)).filterMap h))) (fun y H' e s' => ?_) (fun H' e s' => ?_)
    · have e : h ms[i] = some y := e
      refine ⟨_, s' _ _ p.2, by omega, fun b o q => ?_, ?_⟩
      · rw [upd_ne (ne_of_none q hD)]
        exact s' _ _ (p.1 _ _ q)
      · rw [upd_same, et, e]
        rfl
    · have e : h ms[i] = none := e
      refine ⟨p.1.trans s', ?_⟩
      rw [et, e, s' _ _ p.2]
      simp) (fun H p => done H p.1 (by have := p.2; rwa [← hl, List.take_length] at this))
def sgn (c : Nat) : V := .str ⟨#[c]⟩
theorem walk_strV {z : Str} : Walk (Its z) (z.cps.toList.map sgn).length (fun _ => True) (YAt (z.cps.toList.map sgn)) := by
  have e : (z.cps.toList.map sgn).length = z.cps.size := by simp
  refine ⟨fun i _ hi _ => ?_, fun _ _ => ?_, fun i H x H' hi _ y => ?_⟩
  · rw [e] at hi; exact hi
  · rw [e]; exact Nat.le_refl _
  · obtain ⟨h1, c, h2, h3⟩ := y
    refine ⟨h1, ?_⟩
    rw [List.getElem?_map, Array.getElem?_toList, h2, h3]
    rfl
theorem walk_rangeV {lo : Int} {n : Nat} : Walk (Itr lo n) ((List.range n).map fun i => V.int (lo + (i : Nat))).length (fun _ => True) (YAt ((List.range n).map fun i => V.int (lo + (i : Nat)))) := by
  have e : ((List.range n).map fun i => V.int (lo + (i : Nat))).length = n := by simp
  refine ⟨fun i _ hi _ => ?_, fun _ _ => ?_, fun i H x H' hi _ y => ?_⟩
  · rw [e] at hi; exact hi
  · rw [e]; exact Nat.le_refl _
  · obtain ⟨h1, h2⟩ := y
    refine ⟨h1, ?_⟩
    rw [e] at hi
    rw [List.getElem?_map, List.getElem?_range hi, h2]
    rfl
/-- a function of ints as one of values -/
def liftI (h : Int → Option Int) : V → Option V
  | .int i => (h i).map V.int
  | _ => none
theorem fm_lift (h : Int → Option Int) : ∀ ns : List Int, (ns.map V.int).filterMap (liftI h) = (ns.filterMap h).map V.int
  | [] => rfl
  | n :: r => by
    rw [List.map_cons, List.filterMap_cons, List.filterMap_cons, fm_lift h r]
    have e : liftI h (V.int n) = (h n).map V.int := rfl
    rw [e]
    cases h n <;> rfl
theorem cut_map {α β : Type} (f : α → β) (xs : List α) (lo hi : Option Int) : ∃ ys : List α, ys.length ≤ xs.length ∧ (∀ y ∈ ys, y ∈ xs) ∧ ((xs.map f).drop (HT.sIx (xs.map f).length 0 lo)).take (HT.sIx (xs.map f).length (xs.map f).length hi - HT.sIx (xs.map f).length 0 lo) = ys.map f := by
  refine ⟨(xs.drop (HT.sIx (xs.map f).length 0 lo)).take (HT.sIx (xs.map f).length (xs.map f).length hi - HT.sIx (xs.map f).length 0 lo), ?_, fun y hy => List.mem_of_mem_drop (List.mem_of_mem_take hy), ?_⟩
  · rw [List.length_take, List.length_drop]
    omega
  · rw [List.map_take, List.map_drop]
theorem cutV_ints (ns : List Int) (lo hi : Option Int) : ∃ ms : List Int, ms.length ≤ ns.length ∧ (∀ y ∈ ms, y ∈ ns) ∧ cutV (ns.map V.int) lo hi = ms.map V.int := cut_map V.int ns lo hi
/-- a function of signs as one of values -/
def liftS (h : Nat → Option V) : V → Option V
  | .str s => (match s.cps.toList with
    | [c] => h c
    | _ => none)
  | _ => none
theorem liftS_sgn (h : Nat → Option V) (c : Nat) : liftS h (sgn c) = h c := rfl
theorem fm_liftS (h : Nat → Option V) : ∀ cs : List Nat, (cs.map sgn).filterMap (liftS h) = cs.filterMap h
  | [] => rfl
  | c :: r => by
    rw [List.map_cons, List.filterMap_cons, List.filterMap_cons, fm_liftS h r, liftS_sgn]
/-! ### tests whose answer is known -/
theorem iteY {p : Prop} [Decidable p] {A B : Prop} (hp : p) (h : A) : if decide p = true then A else B := by
  rw [decide_eq_true hp]
  exact iteT h
theorem iteN {p : Prop} [Decidable p] {A B : Prop} (hp : ¬ p) (h : B) : if decide p = true then A else B := by
  rw [decide_eq_false hp]
  exact iteF h
theorem iteNY {p : Prop} [Decidable p] {A B : Prop} (hp : ¬ p) (h : A) : if (!decide p) = true then A else B := by
  rw [decide_eq_false hp]
  exact iteT h
theorem iteNN {p : Prop} [Decidable p] {A B : Prop} (hp : p) (h : B) : if (!decide p) = true then A else B := by
  rw [decide_eq_true hp]
  exact iteF h
theorem iteE {b c : Bool} {A B : Prop} (e : b = c) (h1 : c = true → A) (h2 : c = false → B) : if b = true then A else B := by
  subst e
  cases b with
  | true => exact iteT (h1 rfl)
  | false => exact iteF (h2 rfl)
theorem dI (a b : Int) : decide (V.int a = V.int b) = decide (a = b) := by
  by_cases h : a = b
  · rw [h]; simp
  · rw [decide_eq_false h, decide_eq_false fun e => h (V.int.inj e)]
/-! ### the layer's ops as steps -/
section
variable {K : PySem.W.Frag} {H : Hp} {Q : VK} {p : Addr} {xs : List V} {i : Int} {v : V}
theorem ixl (h : H p = some (.lst xs)) (ha : atI xs i = some v) (q : Q v H) : rIxL K (.ref p) (.int i) H Q := ⟨p, xs, i, v, rfl, rfl, .inl (.inl h), ha, q⟩
theorem ixt (h : H p = some (.tup xs)) (ha : atI xs i = some v) (q : Q v H) : rIxT K (.ref p) (.int i) H Q := ⟨p, xs, i, v, rfl, rfl, .inl (.inl h), ha, q⟩
end
end Ub

namespace Ug
open PySem PySem.Spec PyProof.Rows L2 Ub
/-! ### defs that are called with nothing of repr around them: FnOk with the guards known -/
structure FnG (P : Program) (w : World) (K : PySem.W.Frag) (mg : Str → Option Value) (base : Heap) (CX : CXT) (k : Nat) (f : Addr) (fd : FuncData) (ps : List Str) (sp : Sp) : Prop where
  len : ∀ vs H Q E, sp vs H Q E → vs.length = ps.length
  run : ∀ (A : Around) (outer : List Env) (s : Shared) (H : Hp) (args : Args) (us : List Value) (vs : List V) (Q : VK) (E : XK), A.guards = some [] → Room k A → Env0 P w K mg base A outer s H →
    BindsTo s fd args (ps.zip us) → Vals vs us → sp vs H Q E → codeAny (model P w) A (.call (.ref f) args) (CR CX outer P w H s Q E) s
theorem FnG.mono {P : Program} {w : World} {K : PySem.W.Frag} {mg : Str → Option Value} {base : Heap} {CX : CXT} {j k : Nat} {f : Addr} {fd : FuncData} {ps : List Str} {sp : Sp} (F : FnG P w K mg base CX j f fd ps sp) (h : j ≤ k) : FnG P w K mg base CX k f fd ps sp :=
  ⟨F.len, fun A outer s H args us vs Q E g r => F.run A outer s H args us vs Q E g (r.mono h)⟩
theorem deeper_guards {A : Around} {env : Env} (h : A.guards = some []) : (A.deeper env).guards = some [] := h
section
variable {CX : CXT} {P : Program} {w : World} {K : PySem.W.Frag} {mg : Str → Option Value} {base : Heap} {x qual : Str} {params : Arguments} {body : List Stmt} {scope : Scope} {dvs : List V} {kws : List (Str × V)} {f : Addr} {fd : FuncData} {N ps : List Str} {k : Nat} {sp : Sp}
theorem okG (F : FunD K x qual params body scope dvs kws f fd) (S : FnScope N ps scope) (len : ∀ vs H Q E, sp vs H Q E → vs.length = ps.length)
    (hb : ∀ (cdv : Value) (A : Around) (outer : List Env) (s : Shared) (H : Hp) (vs : List V) (Q : VK) (E : XK), A.guards = some [] → Room k (A.deeper (envOfC qual scope s.heap.objs.size f cdv)) → sp vs H Q E →
      ∃ t, PSs (cxOf CX P w K mg base N qual scope f cdv A outer s H E) body t ∧ t { nx := fun _ H' => Q .non H', rt := Q } (start N vs) H) : FnG P w K mg base CX (k + 1) f fd ps sp := by
  obtain ⟨oc, od, dV, kV, doc, pm, an, cdv, ct, osl, rfl, lk, hcd, _, _⟩ := F.ex
  refine ⟨len, fun A outer s H args us vs Q E hG hr e0 hbi rv hsp => ?_⟩
  have keep := fun b o e => (e0.bs b o e).1
  have inK := e0.mod.kin.keeps keep
  refine codeAny_call_function hr.depth (inK _ _ lk) rfl S.co S.gen rfl (PySem.W.codeRec_of inK hcd) (hbi _ _ _ _ ?_)
  refine wpAny_newFunctionEnv_cells S.kind (fun ⟨y, _⟩ hy => ?_) fun env he s1 cl => ?_
  · exact (S.par y (List.of_mem_zip hy).1).imp (fun q => q) fun q => ⟨q, PySem.W.cellsFrom_some _ _ _ (.inl q)⟩
  subst he
  obtain ⟨t, ht, hq⟩ := hb cdv A outer s H vs Q E hG (hr.deeper _) hsp
  have J : Inv (cxOf CX P w K mg base N qual scope f cdv A outer s H E) [] (start N vs) H s1 := inv_start S hr.hd e0 (len _ _ _ _ hsp) rv cl
  refine ⟨(e0.mod.nolimit.keeps keep).keeps cl.toInCall.keep, codeAny_func (wpAny_mono (ht.run [] s1 (start N vs) H _ J hq) (fun fl s2 h2 => ?_) fun _ _ z => z)⟩
  match fl, h2 with
  | .ret _, ⟨v, _, H2, J2, r2, q2⟩ => exact ⟨v, H2, J2.os, J2.bare, J2.base, J2.hok, r2, q2⟩
  | .next, ⟨_, H2, J2, q2⟩ => exact ⟨.non, H2, J2.os, J2.bare, J2.base, J2.hok, rfl, q2⟩
  | .brk, ⟨_, _, _, q2⟩ => exact q2.elim
  | .cont, ⟨_, _, _, q2⟩ => exact q2.elim
end
/-- such a def by its name -/
structure CalG (P : Program) (w : World) (K : PySem.W.Frag) (mg : Str → Option Value) (base : Heap) (k : Nat) (x : Str) (ps : List Str) (sp : Sp) : Prop where
  ex : ∃ f fd, FnG P w K mg base CX0 k f fd ps sp ∧ mg x = some (.ref f) ∧ PySem.W.keepIn K (.ref f) = true ∧ Binds K fd ps []
section
variable {X : Cx} {k : Nat} {x : Str} {ps : List Str} {sp : Sp} {e : Expr} {es : List Expr} {p pos : Pos} {t : TA}
theorem pe_calG (C : CalG X.prog X.w X.K X.mg X.base k x ps sp) (hG : X.A.guards = some []) (hr : Room k X.A) (hg : Gl X x)
    (ha : PA X (e :: es) t) (hdb : (x == ("__debug__" : Str)) = false := by decide) (he : starEach (e :: es) X.env = (false, eval e X.env) :: starEach es X.env := by rfl) (hpl : (backTo pos (starEach es X.env)).any (·.1) = false := by rfl) :
    PE X (.Call (.Name x p) (e :: es) [] pos) (tCall sp [] E0 t) := by
  obtain ⟨f, fd, F, hm, hk, hb⟩ := C.ex
  refine ⟨fun pins s σ H Q I h => wpAny_Call_Name_kw (ld_glob I hg hm ?_ hdb)⟩
  refine PySem.W.callWith_K (h₀ := X.base) I.ok.mod.kin hk (thn (ha.run pos pins s σ H _ I h) fun us s1 ⟨vs, H1, I1, rv, q⟩ => ⟨I1.kIn, ?_⟩) he hpl
  have q : sp (vs ++ []) H1 Q E0 := q
  rw [List.append_nil] at q
  have hl : us.length = ps.length := by rw [← rv.length]; exact F.len _ _ _ _ q
  have hbs : BindsTo s1 fd ⟨us, []⟩ (ps.zip us) := by
    have z := hb s1 us I1.kIn (by rw [List.append_nil]; exact hl)
    rwa [List.append_nil] at z
  refine wpAny_call (codeAny_mono (F.run X.A X.stack s1 H1 ⟨us, []⟩ us vs Q E0 hG hr I1.env0 hbs rv q) fun r s2 hq => ?_)
  match r, hq with
  | .error e, hq => exact pass0 pins σ H1 s1 e s2 I1 hq
  | .ok (.ret u), hq => exact I1.after hq
end
/-! ### the law's own end -/
section
variable {P : Program} {w : World} {K : PySem.W.Frag} {mg mb : Str → Option Value} {k : Nat} {fa a : Addr} {fd : FuncData} {x : Str} {sp : Sp} {s₁ : Shared} {vs : List Value} {ns : List Int}
theorem core_end (KX : K.In s₁.heap) (hns : s₁.heap.Ns mainGlobals mg) (hb : s₁.heap.Ns builtinsNs mb) (hbb : ∀ x : Str, x ≠ "__name__" → mb x = bootBuiltins x) (hlim : s₁.heap.NoLimit) (hg : s₁.gens = #[])
    (ha : s₁.heap.get? a = some { cls := .type "list", data := .seq vs.toArray }) (hr : Room k callerA) (F : ∀ base : Heap, K.In base → base.Ns mainGlobals mg → FnG P w K mg base CX0 k fa fd [x] sp) (hbind : ∀ (s : Shared) (u : Value), BindsTo s fd ⟨[u], []⟩ [(x, u)])
    (H : Hp) (hO : Only H) (hs : sp [.ref a] H (fun v _ => v = .bl true) fun _ _ _ => False) (hok : HOk P w H s₁.heap) (hA : ∀ b, H b ≠ none → b = a) (hK : H a ≠ none → K.lookup a = none) :
    codeAny (model P w) callerA (.call (.ref fa) ⟨[.ref a], []⟩) (fun r s' => r = .ok (.ret (.bool true)) ∧ OldK s₁.heap s'.heap ∧ s'.os = s₁.os ∧ AllBare s'.gens) s₁ := by
  have far : ∀ {b : Addr}, b ≠ a → H b = none := fun {b} n => Classical.byContradiction fun z => n (hA b z)
  have dictN : ∀ {b : Addr} {m : Str → Option Value}, s₁.heap.Ns b m → (hidT s₁.heap H).Ns b m := by
    intro b m ⟨o, es, ep, e, d, r⟩
    refine ⟨o, es, ep, hidT_get e (far fun z => ?_), d, r⟩
    rw [z, ha] at e
    rw [← Option.some.inj e] at d
    exact nomatch d
  have inB : K.In (hidT s₁.heap H) := fun b o e => hidT_get (KX b o e) (Classical.byContradiction fun z => by
    have eb := hA b z
    rw [eb] at e z
    rw [hK z] at e
    exact nomatch e)
  obtain ⟨mc, l1, l2⟩ := hlim
  have e0 : Env0 P w K mg (hidT s₁.heap H) callerA [] s₁ H := {
    frames := rfl
    mod := ⟨inB, dictN hns, ⟨mb, dictN hb, hbb⟩, ⟨mc, dictN l1, l2⟩⟩
    bs := fun _ _ e => of_hidT e
    bsz := Nat.le_of_eq (hidT_size _ _)
    funs := trivial
    frf := fun b z => absurd (show b ∈ ([] : List Addr) from z) (by simp)
    hok := hok
    bare := .of_eq hg }
  refine codeAny_mono ((F _ inB (dictN hns)).run callerA [] s₁ H ⟨[.ref a], []⟩ [.ref a] [.ref a] _ _ rfl hr e0 (hbind s₁ (.ref a)) (.cons rfl .nil) hs) fun r s2 h => ?_
  match r, h with
  | .error e, h => exact h.elim
  | .ok (.ret u), ⟨v, H2, os2, bare2, un2, hok2, r2, q2⟩ =>
    have ev : v = .bl true := q2
    subst ev
    have eu : u = Value.bool true := r2
    subst eu
    refine ⟨rfl, OldK.of_keep fun b o e => ?_, os2, bare2⟩
    rcases hO b with z | ⟨ob, xs, z⟩
    · exact un2.keep b o e z (fun y => absurd (show b ∈ ([] : List Addr) from y) (by simp)) (by simp)
    · obtain ⟨e1, _⟩ := hok b _ z
      obtain ⟨e2, _⟩ := hok2 b _ (un2.frzs b ob _ z)
      rw [e1] at e
      rw [← Option.some.inj e]
      exact e2
theorem law_callG (KX : K.In s₁.heap) (hns : s₁.heap.Ns mainGlobals mg) (hb : s₁.heap.Ns builtinsNs mb) (hbb : ∀ x : Str, x ≠ "__name__" → mb x = bootBuiltins x) (hlim : s₁.heap.NoLimit) (hg : s₁.gens = #[])
    (ha : s₁.heap.get? a = some { cls := .type "list", data := .seq vs.toArray }) (hi : IntsAre vs ns) (hl : ns.length ≤ sizeLine) (hr : Room k callerA) (F : ∀ base : Heap, K.In base → base.Ns mainGlobals mg → FnG P w K mg base CX0 k fa fd [x] sp)
    (hbind : ∀ (s : Shared) (u : Value), BindsTo s fd ⟨[u], []⟩ [(x, u)]) (hsp : ∀ H : Hp, Only H → SqL K H a (ns.map V.int) → sp [.ref a] H (fun v _ => v = .bl true) fun _ _ _ => False) :
    codeAny (model P w) callerA (.call (.ref fa) ⟨[.ref a], []⟩) (fun r s' => r = .ok (.ret (.bool true)) ∧ OldK s₁.heap s'.heap ∧ s'.os = s₁.os ∧ AllBare s'.gens) s₁ := by
  have rv := vals_ints hi
  have lv := hi.length
  by_cases hk : K.lookup a = none
  · let o0 : Obj := { cls := .type "list", data := .seq vs.toArray }
    let Hs : Hp := upd (fun _ => none) a (.frz o0 (.lst (ns.map V.int)))
    have at_ : Hs a = some (.frz o0 (.lst (ns.map V.int))) := upd_same
    have off : ∀ {b : Addr}, b ≠ a → Hs b = none := fun {b} n => upd_ne n
    have hO : Only Hs := fun b => by
      by_cases e : b = a
      · exact .inr ⟨o0, _, by rw [e]; exact at_⟩
      · exact .inl (off e)
    refine core_end KX hns hb hbb hlim hg ha hr F hbind Hs hO (hsp Hs hO (.inl (.inr ⟨o0, at_⟩))) (fun b u z => ?_) (fun b z => Classical.byContradiction fun n => z (off n)) fun _ => hk
    by_cases e : b = a
    · rw [e, at_] at z
      cases z
      rw [e]
      exact ⟨ha, by rw [List.length_map]; exact hl, vs, _, rv, ha⟩
    · rw [off e] at z
      exact nomatch z
  · obtain ⟨o, ho⟩ := Option.ne_none_iff_exists'.mp hk
    have e := KX a o ho
    rw [ha] at e
    cases e
    exact core_end KX hns hb hbb hlim hg ha hr F hbind (fun _ => none) (fun _ => .inl rfl) (hsp _ (fun _ => .inl rfl) (.inr ⟨_, vs.toArray, _, ho, rfl, rfl, rfl, by rw [List.size_toArray, lv]; exact hl, by simpa using rv⟩))
      (fun b u z => nomatch (show (none : Option HO) = some u from z)) (fun b z => absurd rfl z) fun z => absurd rfl z
end
theorem walk_ofG {l : PySem.W.OpenLaw} {n k : Nat} {q : Program} {loose : List Str} {XP : (Str → Option Value) → Heap → Prop} {YP : World → Heap → Prop} {d : DefRec} {x : Str}
    (hn : l.most = some n) (hn2 : n ≤ sizeLine) (hdf : d.params.defaults = []) (hr : Room k callerA)
    (F : ∀ (w : World) (mg : Str → Option Value) (fa : Addr) (h : Heap), YP w h → h.Ns mainGlobals mg → mg d.name = some (.ref fa) →
      ∃ (K : PySem.W.Frag) (fd : FuncData) (sp : Sp), K.In h ∧ (∀ (s : Shared) (u : Value), BindsTo s fd ⟨[u], []⟩ [(x, u)]) ∧
        (∀ (H : Hp) (a : Addr) (ns : List Int), ns.length ≤ n → Only H → SqL K H a (ns.map V.int) → sp [.ref a] H (fun v _ => v = .bl true) fun _ _ _ => False) ∧
        ∀ base : Heap, K.In base → base.Ns mainGlobals mg → FnG l.prog w K mg base CX0 k fa fd [x] sp) :
    PySem.W.WalkO q loose XP YP l.row.toRowW d [] (fun f vs => PySem.call f vs) := by
  refine Att.attach_call hn hdf fun w s₀ s₁ mg mb fa o pm cd doc a vs ns G Y ho hd hcd hmg hobj hints hlen hg => ?_
  obtain ⟨K, fd, sp, KX, hb, hsp, hF⟩ := F w mg fa _ Y G.T.g hmg
  exact law_callG KX G.T.g G.T.b G.T.builtins G.T.nolimit hg hobj hints (Nat.le_trans hlen hn2) hr hF hb fun H hO hS => hsp H a ns hlen hO hS
end Ug

namespace Ur
open PySem PySem.Spec PyProof.Rows L2 Ub
/-! ### values that are data, out of the places N -/
mutual
inductive DtV (N : List Addr) (H : Hp) : V → PyData → Prop
  | non : DtV N H .non .none
  | bl (b : Bool) : DtV N H (.bl b) (.bool b)
  | int (i : Int) : DtV N H (.int i) (.int i)
  | str (z : Str) : DtV N H (.str z) (.str z)
  | lst {p : Addr} {xs : List V} {ds : List PyData} : H p = some (.lst xs) → p ∉ N → DtVs N H xs ds → DtV N H (.ref p) (.list ds)
  | tup {p : Addr} {xs : List V} {ds : List PyData} : H p = some (.tup xs) → p ∉ N → DtVs N H xs ds → DtV N H (.ref p) (.tuple ds)
inductive DtVs (N : List Addr) (H : Hp) : List V → List PyData → Prop
  | nil : DtVs N H [] []
  | cons {x : V} {d : PyData} {xs : List V} {ds : List PyData} : DtV N H x d → DtVs N H xs ds → DtVs N H (x :: xs) (d :: ds)
end
mutual
theorem DtV.keep {N : List Addr} {H H' : Hp} (k : ∀ b o, H b = some o → b ∉ N → H' b = some o) : ∀ {v : V} {d : PyData}, DtV N H v d → DtV N H' v d
  | _, _, .non => .non
  | _, _, .bl b => .bl b
  | _, _, .int i => .int i
  | _, _, .str z => .str z
  | _, _, .lst h n r => .lst (k _ _ h n) n (DtVs.keep k r)
  | _, _, .tup h n r => .tup (k _ _ h n) n (DtVs.keep k r)
theorem DtVs.keep {N : List Addr} {H H' : Hp} (k : ∀ b o, H b = some o → b ∉ N → H' b = some o) : ∀ {xs : List V} {ds : List PyData}, DtVs N H xs ds → DtVs N H' xs ds
  | _, _, .nil => .nil
  | _, _, .cons h r => .cons (DtV.keep k h) (DtVs.keep k r)
end
theorem DtV.same {N : List Addr} {H H' : Hp} {v : V} {d : PyData} (h : DtV N H v d) (s : Same H H') : DtV N H' v d := h.keep fun b o e _ => s b o e
mutual
theorem DtV.free {N : List Addr} {H : Hp} : ∀ {v : V} {d : PyData}, DtV N H v d → DtV [] H v d
  | _, _, .non => .non
  | _, _, .bl b => .bl b
  | _, _, .int i => .int i
  | _, _, .str z => .str z
  | _, _, .lst h _ r => .lst h (by simp) (DtVs.free r)
  | _, _, .tup h _ r => .tup h (by simp) (DtVs.free r)
theorem DtVs.free {N : List Addr} {H : Hp} : ∀ {xs : List V} {ds : List PyData}, DtVs N H xs ds → DtVs [] H xs ds
  | _, _, .nil => .nil
  | _, _, .cons h r => .cons (DtV.free h) (DtVs.free r)
end
theorem DtVs.mem {N : List Addr} {H : Hp} : ∀ {xs : List V} {ds : List PyData}, DtVs N H xs ds → ∀ {x : V}, x ∈ xs → ∃ d ∈ ds, DtV N H x d
  | _, _, .nil, _, h => nomatch h
  | _, _, .cons h r, x, hx => by
    rcases List.mem_cons.mp hx with e | hx
    · exact ⟨_, List.mem_cons_self .., by rw [e]; exact h⟩
    · obtain ⟨d, h1, h2⟩ := DtVs.mem r hx
      exact ⟨d, List.mem_cons_of_mem _ h1, h2⟩
theorem DtVs.len {N : List Addr} {H : Hp} : ∀ {xs : List V} {ds : List PyData}, DtVs N H xs ds → xs.length = ds.length
  | _, _, .nil => rfl
  | _, _, .cons _ r => congrArg Nat.succ (DtVs.len r)
mutual
theorem DtV.reads {N : List Addr} {P : Program} {w : World} {H : Hp} {h : Heap} (hok : HOk P w H h) : ∀ {v : V} {d : PyData} {u : Value}, DtV N H v d → RelV v u → ∃ as, Reads h u d as
  | _, _, u, .non, r => by
    obtain rfl : u = Value.none := r
    exact ⟨_, .none⟩
  | _, _, u, .bl b, r => by
    obtain rfl : u = Value.bool b := r
    exact ⟨_, .bool b⟩
  | _, _, _, .int i, r => by
    obtain ⟨t, rfl⟩ := r
    exact ⟨_, .int i t⟩
  | _, _, _, .str z, r => by
    obtain ⟨t, rfl⟩ := r
    exact ⟨_, .str z t⟩
  | _, _, u, .lst (p := p) (xs := xs) e _ q, r => by
    obtain rfl : u = Value.ref p := r
    obtain ⟨_, its, n, rv, hg⟩ : ObjOk P w H h p (.lst xs) := hok p _ e
    obtain ⟨as, ra⟩ := DtVs.reads hok q rv
    exact ⟨_, .list hg rfl rfl (by simpa using ra)⟩
  | _, _, u, .tup (p := p) (xs := xs) e _ q, r => by
    obtain rfl : u = Value.ref p := r
    obtain ⟨_, its, rv, o, hg, hc, n, hd⟩ : ObjOk P w H h p (.tup xs) := hok p _ e
    obtain ⟨as, ra⟩ := DtVs.reads hok q rv
    exact ⟨_, .tuple hg hc hd (by simpa using ra)⟩
theorem DtVs.reads {N : List Addr} {P : Program} {w : World} {H : Hp} {h : Heap} (hok : HOk P w H h) : ∀ {xs : List V} {ds : List PyData} {us : List Value}, DtVs N H xs ds → Vals xs us → ∃ as, ReadsAll h us ds as
  | _, _, _, .nil, r => by
    cases r
    exact ⟨_, .nil⟩
  | _, _, _, .cons a b, r => by
    cases r with
    | cons r1 r2 =>
      obtain ⟨as, h1⟩ := DtV.reads hok a r1
      obtain ⟨bs, h2⟩ := DtVs.reads hok b r2
      exact ⟨_, .cons h1 h2⟩
end
/-! ### repr -/
def rpOk (d : PyData) : Bool := d.showable && !d.hasDict && decide (d.depth ≤ 40) && (match d with
  | .int _ => true
  | _ => decide (d.shown.length ≤ 100000))
def rRepr : List V → Hp → VK → Prop := fun xs H Q => ∃ v d, xs = [v] ∧ DtV [] H v d ∧ rpOk d = true ∧ Q (.str d.shown) H
theorem call_reprV {X : Cx} (hG : X.A.guards = some []) (hu : X.A.units + 64 < cLine) : CallR X (.builtin "repr") rRepr := by
  intro pins s σ H xs us Q I r h
  obtain ⟨v, d, rfl, hd, ok, q⟩ := h
  obtain ⟨u, rfl, rv⟩ := vals1 r
  unfold rpOk at ok
  simp only [Bool.and_eq_true, decide_eq_true_eq, Bool.not_eq_true'] at ok
  obtain ⟨⟨⟨o1, o2⟩, o3⟩, o4⟩ := ok
  have sz : ∀ {n : Nat}, n ≤ 100000 → n ≤ sizeLine := fun h => Nat.le_trans h (by decide)
  cases hd with
  | non =>
    obtain rfl : u = Value.none := rv
    exact PySem.P.repr_of_none ⟨.str "None", H, I.tok _, ⟨_, rfl⟩, q⟩
  | bl b =>
    obtain rfl : u = Value.bool b := rv
    refine PySem.P.repr_of_bool ⟨.str (if b then "True" else "False"), H, I.tok _, ⟨s.toks, ?_⟩, ?_⟩
    · cases b <;> rfl
    · cases b <;> exact q
  | int i =>
    obtain ⟨t, rfl⟩ := rv
    refine PySem.P.repr_of_int ?_ ⟨.str (toString i), H, I.tok _, ⟨_, rfl⟩, q⟩
    simpa [PyData.showable] using o1
  | str z =>
    obtain ⟨t, rfl⟩ := rv
    exact PySem.P.repr_of_str ⟨.str (reprText z), H, I.tok _, ⟨_, rfl⟩, q⟩ (sz (of_decide_eq_true o4))
  | lst e n z =>
    rename_i p ys ds
    obtain ⟨as, ra⟩ := DtV.reads I.hok (.lst e n z) rv
    obtain rfl : u = Value.ref p := rv
    exact repr_of_reads' ra o1 (PyData.noDict_hsm o2) hG (by omega) (fun _ _ z => z) (fun h' u tk k => ⟨.str (PyData.list ds).shown, H, I.kept (t' := tk) k, ⟨_, rfl⟩, q⟩) (sz (of_decide_eq_true o4))
  | tup e n z =>
    rename_i p ys ds
    obtain ⟨as, ra⟩ := DtV.reads I.hok (.tup e n z) rv
    obtain rfl : u = Value.ref p := rv
    exact repr_of_reads' ra o1 (PyData.noDict_hsm o2) hG (by omega) (fun _ _ z => z) (fun h' u tk k => ⟨.str (PyData.tuple ds).shown, H, I.kept (t' := tk) k, ⟨_, rfl⟩, q⟩) (sz (of_decide_eq_true o4))
/-! ### the odd values of the laws -/
def odds : List PyData := [.none, .bool true, .bool false, .int 0, .int 1, .int (-1), .int (10 ^ (29 : Int).toNat), .str "", .str "..", .str ".A", .str " ", .str "\n", .str "a b",
  .list [], .list [.int 0], .list [.int 1, .int 2], .tuple [.none], .tuple [.bool true], .tuple [.tuple [], .int 0], .tuple [.str "a", .int 1, .list []], .list [.list [], .list [.tuple []]],
  .list [.none], .str "update", .str "{", .str "}"]
theorem odds_rp : ∀ d ∈ odds, rpOk d = true := List.all_eq_true.mp (by decide +kernel)
end Ur

namespace Ue
open PySem PySem.Spec PyProof.Rows L2 Ub
/-! ### own error classes with one field -/
structure ExK (K : PySem.W.Frag) (C fI : Addr) (f : Str) : Prop where
  o : OexC K C
  x : XfC K C
  e : ExcC K C
  no : PySem.W.findIn K (.ref C) f = some none
  iC : PySem.W.findIn K (.ref C) "__init__" = some (some (.ref fI))
  tI : PySem.W.typeIn K (.ref fI) = some (.type "function")
def clB (K : PySem.W.Frag) (C : Addr) : Bool := match K.lookup C with
  | some ⟨.type T, _, .cls cd, sl⟩ => (match cd.mro, sl.toList with
    | .ref C' :: bm, [_, _, _, _, some (.builtin n), _] => decide (T = "type") && (decide (C' = C) && (decide (n = "ValueError.__new__") && (!cd.hasDel && (cd.hasDict && PySem.HandSPX.refsVE bm))))
    | _, _ => false)
  | _ => false
theorem clB_ok {K : PySem.W.Frag} {C : Addr} (h : clB K C = true) : ∃ nm q N bs bm sn sub ab col dd k0 k1 k2 k3 k5, K.lookup C = some (excClassObj nm q C N bs bm true sn sub ab col dd k0 k1 k2 k3 k5 "ValueError.__new__") ∧ PySem.HandSPX.refsVE bm = true := by
  unfold clB at h
  split at h
  · rename_i T dd cd sl ho
    split at h
    · rename_i C' bm k0 k1 k2 k3 n k5 hm hs
      obtain ⟨nm, bs, mro, ns, qn, hd, sn, sub, ab, col, del⟩ := cd
      obtain ⟨ls⟩ := sl
      simp only [Bool.and_eq_true, decide_eq_true_eq, Bool.not_eq_true'] at h
      obtain ⟨rfl, rfl, rfl, h1, h2, h3⟩ := h
      dsimp only at hm hs h1 h2
      subst hm hs h1 h2
      exact ⟨nm, qn, ns, bs, bm, sn, sub, ab, col, dd, k0, k1, k2, k3, k5, ho, h3⟩
    · cases h
  · cases h
def exB (K : PySem.W.Frag) (C fI : Addr) (f : Str) : Bool :=
  clB K C && (He.eqO (PySem.W.findIn K (.ref C) "__setattr__") (some (some (.builtin "object.__setattr__"))) && (decide (PySem.W.typeIn K (.ref C) = some (.type "type")) && (PySem.W.keepIn K (.ref C) && (xfB K C &&
  (He.eqO (PySem.W.findIn K (.ref C) "__class__") (some (some (.builtin "object.__class__"))) && (He.eqO (PySem.W.specialIn K (.builtin "object.__class__") "__get__") (some (some (.builtin "getset_descriptor.__get__"))) &&
  (decide (PySem.W.takesIn K (.builtin "object.__class__") = some true) && (decide (PySem.W.mroIn K C (.type "object") = some true) && (He.eqO (PySem.W.findIn K (.ref C) f) (some none) &&
  (He.eqO (PySem.W.findIn K (.ref C) "__init__") (some (some (.ref fI))) && decide (PySem.W.typeIn K (.ref fI) = some (.type "function"))))))))))))
theorem exB_ok {K : PySem.W.Frag} {C fI : Addr} {f : Str} (h : exB K C fI f = true) : ExK K C fI f := by
  obtain ⟨h1, h⟩ := He.ba h
  obtain ⟨h2, h⟩ := He.ba h
  obtain ⟨h3, h⟩ := He.ba h
  obtain ⟨h4, h⟩ := He.ba h
  obtain ⟨h5, h⟩ := He.ba h
  obtain ⟨h6, h⟩ := He.ba h
  obtain ⟨h7, h⟩ := He.ba h
  obtain ⟨h8, h⟩ := He.ba h
  obtain ⟨h9, h⟩ := He.ba h
  obtain ⟨h10, h⟩ := He.ba h
  obtain ⟨h11, h12⟩ := He.ba h
  have x := xfB_ok h5
  exact ⟨⟨clB_ok h1, He.eqO_ok h2, x.exC, of_decide_eq_true h3, h4⟩, x, ⟨x.ga, x.gg, x.exC, x.hdC, He.eqO_ok h6, He.eqO_ok h7, of_decide_eq_true h8, of_decide_eq_true h9⟩, He.eqO_ok h10, He.eqO_ok h11, of_decide_eq_true h12⟩
/-- what such an __init__ does -/
def sp_exi (C : Addr) (f : Str) : Sp := fun vs H Q _ => ∃ a y, vs = [.ref a, y] ∧ H a = some (exo a C none) ∧ ∀ d, H d = none → d ≠ a → Q .non (upd (upd H d (exd d [(f, y)])) a (exo a C (some d)))
/-- such a class by its name -/
structure CalX (P : Program) (w : World) (K : PySem.W.Frag) (mg : Str → Option Value) (base : Heap) (k : Nat) (x : Str) (C : Addr) (f : Str) : Prop where
  ex : ∃ fI fd ps, ExK K C fI f ∧ FnOk P w K mg base CX0 k fI fd ps (sp_exi C f) ∧ Binds K fd ps [] ∧ mg x = some (.ref C)
def MkX (C : Addr) (f : Str) (v : V) (H1 : Hp) (W : XK) : Prop := [v].length ≤ 1000 ∧ ∀ a, H1 a = none → sp_exi C f (.ref a :: ([v] ++ [])) (upd H1 a (exo a C none))
  (fun v H2 => v = .non ∧ ∃ (d : Addr) (fs : List (Str × V)), H2 a = some (exo a C (some d)) ∧ H2 d = some (exd d fs) ∧ H1 d = none ∧ W (.ref C) (some d) (upd (del H2 a) d (.xd fs))) (fun _ _ _ => False)
theorem mkX {C : Addr} {f : Str} {v : V} {H1 : Hp} {W : XK} (h : ∀ d H', Same H1 H' → H1 d = none → H' d = some (.xd [(f, v)]) → W (.ref C) (some d) H') : MkX C f v H1 W := by
  refine ⟨by simp, fun a ha => ⟨a, v, rfl, upd_same, fun d hd hne => ⟨rfl, d, [(f, v)], upd_same, ?_, ?_, h d _ (fun b o q => ?_) ?_ upd_same⟩⟩⟩
  · rw [upd_ne hne, upd_same]
  · rwa [upd_ne hne] at hd
  · rw [upd_ne hne] at hd
    have hb := ne_of_none q ha
    have hbd := ne_of_none q hd
    rw [upd_ne hbd, del_ne hb, upd_ne hb, upd_ne hbd, upd_ne hb]
    exact q
  · rwa [upd_ne hne] at hd
section
variable {X : Cx} {k : Nat} {x : Str} {C : Addr} {f : Str} {e : Expr} {te : TE} {p pos pos' : Pos}
/-- raise x(e) -/
theorem ps_raiseX {W : WX} (c : CalX X.prog X.w X.K X.mg X.base k x C f) (hc : X.calm = true) (tk : Takes X W) (hr : Room (k + 1) X.A) (hg : Gl X x) (he : PE X e te)
    (hdb : (x == ("__debug__" : Str)) = false := by decide) (hs : starEach [e] X.env = (false, eval e X.env) :: starEach [] X.env := by rfl) :
    PS X (.Raise (some (.Call (.Name x p) [e] [] pos)) none pos') (fun _ σ H => te σ H fun v H1 => MkX C f v H1 fun cls d H' => W cls d σ H') := by
  obtain ⟨fI, fd, ps, E, F, hb, hm⟩ := c.ex
  exact ps_raise hc tk (pmk_oex E.o E.iC E.tI F hr hb .nil pass0 hg hm (pa_cons he pa_nil hs) hdb hs rfl)
/-- x(e), as a value -/
def Mk1 (C : Addr) (f : Str) (Q : VK) (v : V) (H1 : Hp) : Prop := ∀ a d H', Same H1 H' → H1 a = none → H1 d = none → H' a = some (exo a C (some d)) → H' d = some (exd d [(f, v)]) → Q (.ref a) H'
def MkL (C : Addr) (f : Str) (Q : VK) : List V → Hp → Prop
  | [v], H1 => Mk1 C f Q v H1
  | _, _ => False
def tMkX (C : Addr) (f : Str) (te : TE) : TE := fun σ H Q => te σ H (Mk1 C f Q)
theorem MkL.one {C : Addr} {f : Str} {Q : VK} {vs : List V} {H1 : Hp} (h : MkL C f Q vs H1) : ∃ v, vs = [v] ∧ Mk1 C f Q v H1 := by
  match vs, h with
  | [v], h => exact ⟨v, rfl, h⟩
theorem pe_mkX (c : CalX X.prog X.w X.K X.mg X.base k x C f) (hr : Room (k + 1) X.A) (hg : Gl X x) (he : PE X e te)
    (hdb : (x == ("__debug__" : Str)) = false := by decide) (hs : starEach [e] X.env = (false, eval e X.env) :: starEach [] X.env := by rfl) :
    PE X (.Call (.Name x p) [e] [] pos) (tMkX C f te) := by
  obtain ⟨fI, fd, ps, E, F, hb, hm⟩ := c.ex
  obtain ⟨nm, q, N, bs, bm, sn, sub, ab, col, dd, k0, k1, k2, k3, k5, lk, hbm⟩ := E.o.cls
  refine ⟨fun pins s σ H Q I h => wpAny_Call_Name_kw (ld_glob I hg hm ?_ hdb)⟩
  refine PySem.W.callWith_K (h₀ := X.base) I.ok.mod.kin E.o.kC (thn ((pa_cons he pa_nil hs).run pos pins s σ H (MkL C f Q) I h) fun us s1 ⟨vs, H1, J, rv, ml⟩ => ⟨J.kIn, ?_⟩) hs rfl
  obtain ⟨v, rfl, m1⟩ := ml.one
  obtain ⟨hp, g, dr, tk, os⟩ := s1
  show wpAny _ _ (call (.ref C) us) _ _ _
  let n := hp.objs.size
  let h2 := (hp.push (PySem.W.kdv_tup us)).push (PySem.HandSPX.excO C n)
  have hn : H1 (n + 1) = none := J.hok.fresh (Nat.le_succ _)
  have kk : ∀ b o, hp.get? b = some o → h2.get? b = some o := fun b o z => Heap.get?_push_of_some _ (Heap.get?_push_of_some _ z)
  have at_ : h2.get? (n + 1) = some (PySem.HandSPX.excO C n) := by
    show ((hp.push (PySem.W.kdv_tup us)).push (PySem.HandSPX.excO C hp.objs.size)).get? (hp.objs.size + 1) = some (PySem.HandSPX.excO C hp.objs.size)
    heap_get
  have J2 : Inv X pins σ (upd H1 (n + 1) (exo (n + 1) C none)) ⟨h2, g, dr, tk, os⟩ := J.laid (t' := tk) kk (Nat.le_succ _) (exo_ok at_)
  have hl1 : us.length = 1 := by rw [← rv.length]; rfl
  have sp : sp_exi C f [.ref (n + 1), v] (upd H1 (n + 1) (exo (n + 1) C none)) (fun z H2 => z = .non ∧ Q (.ref (n + 1)) H2) (fun _ _ _ => False) := by
    refine ⟨n + 1, v, rfl, upd_same, fun d hd hne => ⟨rfl, ?_⟩⟩
    rw [upd_ne hne] at hd
    refine m1 (n + 1) d _ (fun b o z => ?_) hn hd upd_same (by rw [upd_ne hne, upd_same])
    rw [upd_ne (ne_of_none z hn), upd_ne (ne_of_none z hd), upd_ne (ne_of_none z hn)]
    exact z
  have r2 : Vals [V.ref (n + 1), v] (Value.ref (n + 1) :: us) := .cons rfl rv
  have hl : (Value.ref (n + 1) :: us).length = ps.length := by
    rw [← r2.length]
    exact F.len _ _ _ _ sp
  have bi : BindsTo ⟨h2, g, dr, tk, os⟩ fd ⟨Value.ref (n + 1) :: us, []⟩ (ps.zip (Value.ref (n + 1) :: us)) := by
    have z := hb ⟨h2, g, dr, tk, os⟩ (Value.ref (n + 1) :: us) J2.kIn (by rw [List.append_nil]; exact hl)
    rwa [List.append_nil] at z
  refine wpAny_call (PySem.HandSPX.call_own PySem.F.excBase_ValueError (fun Y => PySem.HandSPX.refsVE_contains Y bm hbm) (J.kIn _ _ lk) (PySem.W.looks_findIn J.kIn E.iC) (fun self => PySem.W.bind_fn J.kIn self E.tI) (by rw [hl1]; decide)
    (codeAny_mono (F.run _ X.stack _ _ ⟨Value.ref (n + 1) :: us, []⟩ (Value.ref (n + 1) :: us) _ _ (fun _ _ _ => False) (hr.make C us []) (J2.env0.make C us []) bi r2 sp) fun r s2 hq => ?_))
  match r, hq with
  | .error _, hq => exact hq.elim
  | .ok (.ret u), hq =>
    obtain ⟨z, H2, J3, rz, ez, q2⟩ := J2.after hq
    subst ez
    exact ⟨rz, .ref (n + 1), H2, J3, rfl, q2⟩
/-- x.f, x such a value -/
def tExf (K : PySem.W.Frag) (f : Str) (te : TE) : TE := fun σ H Q => te σ H fun x H1 => ∃ (a C d : Addr) (fs : List (Str × V)) (v : V), x = .ref a ∧ H1 a = some (exo a C (some d)) ∧ H1 d = some (exd d fs) ∧ XfC K C ∧ PySem.W.findIn K (.ref C) f = some none ∧ fs.lookup f = some v ∧ Q v H1
theorem exo_inst {P : Program} {w : World} {H : Hp} {h : Heap} {a C d : Addr} {fs : List (Str × V)} (hok : HOk P w H h) (ea : H a = some (exo a C (some d))) (ed : H d = some (exd d fs)) :
    ∃ (oe od : Obj) (mA : Str → Option Value), PySem.W.InstAt h a oe C (some od) ∧ (∀ n, PySem.W.lookIn n od = some (mA n)) ∧ ∀ n, RelO (fs.lookup n) (mA n) := by
  obtain ⟨t, ho⟩ := exo_at hok ea
  obtain ⟨mA, hns, hr⟩ := exd_at hok ed
  obtain ⟨od, h1, h2⟩ := lookIn_ns hns
  exact ⟨_, od, mA, ⟨ho, rfl, rfl, h1⟩, h2, hr⟩
theorem pe_exf (he : PE X e te) (hb : attributeBase e f X.env (eval e X.env) = eval e X.env := by rfl) : PE X (.Attribute e f pos) (tExf X.K f te) := by
  refine ⟨fun pins s σ H Q I h => attr_of hb (thn (he.run pins s σ H _ I h) fun u s1 hh => ?_)⟩
  obtain ⟨x, H1, J, rx, a, C, d, fs, v, rfl, ea, ed, T, no, l, q⟩ := hh
  obtain rfl : u = Value.ref a := rx
  obtain ⟨oe, od, mA, Z, hl, hr⟩ := exo_inst J.hok ea ed
  obtain ⟨y, hy, ry⟩ := RelO.some_of (v := v) (o := mA f) (by rw [← l]; exact hr f)
  exact HandSPX.exc_get J.kIn Z T.ga T.gg T.exC (PySem.W.findObj_own T.hdC no rfl (by rw [hl, hy])) (handed_of ry) ⟨v, H1, J.tok _, ry, q⟩
/-- isinstance(x, c), x such a value -/
def rIsX (K : PySem.W.Frag) : List V → Hp → VK → Prop := fun xs H Q => ∃ (a C d : Addr) (fs : List (Str × V)) (c : V) (cv : Value) (b : Bool), xs = [.ref a, c] ∧ H a = some (exo a C (some d)) ∧ H d = some (exd d fs) ∧ ExcC K C ∧ (∀ u, RelV c u → u = cv) ∧ PySem.W.kitOne K (.ref C) cv = some b ∧ Q (.bl b) H
theorem clsSome {K : PySem.W.Frag} {C : Addr} (h : PySem.W.hasDictIn K C = true) : (PySem.W.clsIn K C).isSome = true := by
  obtain ⟨cd, hc, _⟩ := PySem.W.any_some h
  rw [hc]
  rfl
theorem call_isX : CallR X (.builtin "isinstance") (rIsX X.K) := by
  intro pins s σ H xs us Q I r h
  obtain ⟨a, C, d, fs, c, cv, b, rfl, ea, ed, T, hc, hk, q⟩ := h
  match us, r with
  | [u1, u2], .cons r1 (.cons r2 .nil) =>
    obtain rfl : u1 = Value.ref a := r1
    obtain rfl := hc _ r2
    obtain ⟨oe, od, mA, Z, _, _⟩ := exo_inst I.hok ea ed
    exact PySem.W.kia_one (PySem.W.kitx_exc (clsSome T.hd) T.hg T.hk T.hs T.ha T.hn T.ht T.hm) I.kIn Z hk (fun z => nomatch z) fun tk => ⟨.bl b, H, I.kept (t' := tk) fun _ _ z => z, rfl, q⟩
/-- isinstance(e, c), e what an except clause holds, with its dict -/
def rIsS (K : PySem.W.Frag) (a : Addr) (cls : Value) (d : Option Addr) : List V → Hp → VK → Prop := fun xs H Q => ∃ (C dd : Addr) (fs : List (Str × V)) (c : V) (cv : Value) (b : Bool), xs = [.ref a, c] ∧ cls = .ref C ∧ d = some dd ∧ H dd = some (.xd fs) ∧ ExcC K C ∧ (∀ u, RelV c u → u = cv) ∧ PySem.W.kitOne K (.ref C) cv = some b ∧ Q (.bl b) H
theorem call_isS {a : Addr} {oe : Obj} {cls : Value} {d : Option Addr} {pn : List (Addr × Obj)} (hz : Zc cls d oe) (hf : ∃ vs, oe.data = .fields vs) : CallR (X.suite a ((a, oe) :: pn)) (.builtin "isinstance") (rIsS X.K a cls d) := by
  intro pins s σ H xs us Q I r h
  obtain ⟨C, dd, fs, c, cv, b, rfl, rfl, rfl, ed, T, hc, hk, q⟩ := h
  match us, r with
  | [u1, u2], .cons r1 (.cons r2 .nil) =>
    obtain rfl : u1 = Value.ref a := r1
    obtain rfl := hc _ r2
    obtain ⟨ha, _⟩ := I.pin (a, oe) (List.mem_append_left _ List.mem_cons_self)
    obtain ⟨vs, hd⟩ := hf
    obtain ⟨mA, hns, _⟩ : ObjOk X.prog X.w H s.heap dd (.xd fs) := I.hok dd _ ed
    obtain ⟨od, ho, _⟩ := lookIn_ns hns
    have Z : PySem.W.InstAt s.heap a oe C (some od) := ⟨ha, hz.1, by unfold PySem.W.notCls; rw [hd] <;> rfl, by rw [hz.2]; exact ho⟩
    exact PySem.W.kia_one (PySem.W.kitx_exc (clsSome T.hd) T.hg T.hk T.hs T.ha T.hn T.ht T.hm) I.kIn Z hk (fun z => nomatch z) fun tk => ⟨.bl b, H, I.kept (t' := tk) fun _ _ z => z, rfl, q⟩
end
theorem takes0 {X : Cx} : Takes X (fun _ _ _ _ => False) := fun _ _ ⟨_, _, _, _, _, _, _, _, _, _, _, _, _, _, _, _, z⟩ => z.elim
/-- who is whose -/
structure KitT (K : PySem.W.Frag) (b : Str) (xs : List Str) : Prop where
  own : ∀ x ∈ xs, ∀ y ∈ xs, PySem.W.kitOne K (.ref (He.ga K x)) (.ref (He.ga K y)) = some (decide (x = y))
  base : ∀ x ∈ xs, PySem.W.kitOne K (.ref (He.ga K x)) (.ref (He.ga K b)) = some true
  ve : ∀ x ∈ xs, PySem.W.kitOne K (.ref (He.ga K x)) (.type "ValueError") = some true
def kitTB (K : PySem.W.Frag) (b : Str) (xs : List Str) : Bool := (xs.all fun x => xs.all fun y => decide (PySem.W.kitOne K (.ref (He.ga K x)) (.ref (He.ga K y)) = some (decide (x = y)))) &&
  ((xs.all fun x => decide (PySem.W.kitOne K (.ref (He.ga K x)) (.ref (He.ga K b)) = some true)) && xs.all fun x => decide (PySem.W.kitOne K (.ref (He.ga K x)) (.type "ValueError") = some true))
theorem kitTB_ok {K : PySem.W.Frag} {b : Str} {xs : List Str} (h : kitTB K b xs = true) : KitT K b xs := by
  obtain ⟨h1, h⟩ := He.ba h
  obtain ⟨h2, h3⟩ := He.ba h
  exact ⟨fun x hx y hy => of_decide_eq_true (List.all_eq_true.mp (List.all_eq_true.mp h1 x hx) y hy), fun x hx => of_decide_eq_true (List.all_eq_true.mp h2 x hx), fun x hx => of_decide_eq_true (List.all_eq_true.mp h3 x hx)⟩
end Ue

namespace Uo
open PySem PySem.Spec PyProof.Rows L2 Ub
/-! ### own special methods -/
/-- an own class's method -/
structure CalK (P : Program) (w : World) (K : PySem.W.Frag) (mg : Str → Option Value) (base : Heap) (CX : CXT) (k : Nat) (C : Addr) (m : Str) (ps : List Str) (sp : Sp) : Prop where
  ex : ∃ f fd, Meth K C m f ∧ PySem.W.fnIn K f = true ∧ FnOk P w K mg base CX k f fd ps sp ∧ Binds K fd ps []
/-- what is never reached -/
theorem pe_no {X : Cx} {e : Expr} : PE X e (fun _ _ _ => False) := ⟨fun _ _ _ _ _ _ h => h.elim⟩
theorem pt_no {X : Cx} {e : Expr} : PT X e (fun _ _ _ => False) := ⟨fun _ _ _ _ _ _ h => h.elim⟩
theorem ps_no {X : Cx} {st : Stmt} : PS X st (fun _ _ _ => False) := ⟨fun _ _ _ _ _ _ h => h.elim⟩
theorem pas0 {X : Cx} {σ : L2.St} {E : XK} : PassesAt CX0 X σ E := fun _ _ _ _ _ _ h => h.elim
section
variable {X : Cx} {CX : CXT} {k : Nat} {f C : Addr} {fd : FuncData} {ps : List Str} {sp : Sp} {E : XK}
theorem run_fnA {pins : List (Addr × Obj)} {σ : L2.St} {H : Hp} {s : Shared} {Q : VK} {us : List Value} {vs : List V} (F : FnOk X.prog X.w X.K X.mg X.base CX k f fd ps sp) (hr : Room k X.A) (hb : Binds X.K fd ps []) (hx : PassesAt CX X σ E)
    (I : Inv X pins σ H s) (r : Vals vs us) (h : sp vs H Q E) : wpAny (model X.prog X.w) X.A (call (.ref f) us) (EP X pins σ Q) X.xe s := by
  have hl : us.length = ps.length := by rw [← r.length]; exact F.len _ _ _ _ h
  have bi := hb s us I.kIn (by rw [List.append_nil]; exact hl)
  rw [List.append_nil] at bi
  refine wpAny_call (codeAny_mono (F.run X.A X.stack s H ⟨us, []⟩ us vs Q E hr I.env0 bi r h) fun r s' hq => ?_)
  match r, hq with
  | .error e, hq => exact hx pins H s e s' I hq
  | .ok (.ret u), hq => exact I.after hq
theorem run_fn1 {pins : List (Addr × Obj)} {σ : L2.St} {H : Hp} {s : Shared} {Q : VK} {us : List Value} {vs : List V} (F : FnOk X.prog X.w X.K X.mg X.base CX k f fd ps sp) (hr : Room (k + 1) X.A) (hb : Binds X.K fd ps []) (hx : PassesAt CX X σ E)
    (I : Inv X pins σ H s) (r : Vals vs us) (h : sp vs H Q E) : wpAny (model X.prog X.w) X.A.in1 (call (.ref f) us) (EP X pins σ Q) X.xe s := by
  have hl : us.length = ps.length := by rw [← r.length]; exact F.len _ _ _ _ h
  have bi := hb s us I.kIn (by rw [List.append_nil]; exact hl)
  rw [List.append_nil] at bi
  refine wpAny_call (codeAny_mono (F.run X.A.in1 X.stack s H ⟨us, []⟩ us vs Q E hr.in1 I.env0.in1 bi r h) fun r s' hq => ?_)
  match r, hq with
  | .error e, hq => exact hx pins H s e s' I hq
  | .ok (.ret u), hq => exact I.after hq
theorem run_fn2 {pins : List (Addr × Obj)} {σ : L2.St} {H : Hp} {s : Shared} {Q : VK} {us : List Value} {vs : List V} (F : FnOk X.prog X.w X.K X.mg X.base CX k f fd ps sp) (hr : Room (k + 2) X.A) (hb : Binds X.K fd ps []) (hx : PassesAt CX X σ E)
    (I : Inv X pins σ H s) (r : Vals vs us) (h : sp vs H Q E) : wpAny (model X.prog X.w) X.A.in1.in1 (call (.ref f) us) (EP X pins σ Q) X.xe s := by
  have hl : us.length = ps.length := by rw [← r.length]; exact F.len _ _ _ _ h
  have bi := hb s us I.kIn (by rw [List.append_nil]; exact hl)
  rw [List.append_nil] at bi
  refine wpAny_call (codeAny_mono (F.run X.A.in1.in1 X.stack s H ⟨us, []⟩ us vs Q E hr.in1.in1 I.env0.in1.in1 bi r h) fun r s' hq => ?_)
  match r, hq with
  | .error e, hq => exact hx pins H s e s' I hq
  | .ok (.ret u), hq => exact I.after hq
theorem inst_of {pins : List (Addr × Obj)} {σ : L2.St} {H : Hp} {s : Shared} {a dx : Addr} {fs : List (Str × V)} (I : Inv X pins σ H s) (ea : H a = some (.ins C dx fs)) : ∃ ox od, PySem.W.InstAt s.heap a ox C od := by
  obtain ⟨mA, O, _⟩ := ins_get I.hok ea
  obtain ⟨od, J, _⟩ := O.look
  exact ⟨_, _, J⟩
/-! ### in -/
theorem contains_own {prog : Program} {w : World} {A : Around} {Ee : Value → Shared → Prop} {s : Shared} {K : PySem.W.Frag} {x C f : Addr} {ox : Obj} {od : Option Obj} {v : Value} {Q : Bool → Shared → Prop} (X : K.In s.heap) (I : PySem.W.InstAt s.heap x ox C od) (M : Meth K C "__contains__" f)
    (h : wpAny (model prog w) A (call (.ref f) [.ref x, v]) (fun r s' => wpAny (model prog w) A (truthy r) Q Ee s') Ee s) : wpAny (model prog w) A (contains (.ref x) v) Q Ee s := by
  unfold contains
  refine wpAny_holding (wpAny_bind (wpAny_bind (I.type.here ((PySem.W.looks_findIn X M.at_).here ?_))))
  rw [if_neg (by simp)]
  exact wpAny_bind (PySem.W.unlessNone_K X I M.at_ M.fn h)
def rInO (C : Addr) (sp : Sp) (E : XK) (g : Bool → Bool) : R2 := fun x y H Q => ∃ a dx fs, y = .ref a ∧ H a = some (.ins C dx fs) ∧ sp [.ref a, x] H (fun v H' => ∃ b, v = .bl b ∧ Q (.bl (g b)) H') E
theorem op_inO (c : CalK X.prog X.w X.K X.mg X.base CX k C "__contains__" ps sp) (hx : ∀ σ, PassesAt CX X σ E) (hr : Room k X.A) : OpR X (compareOp .In) (rInO C sp E fun b => b) := by
  obtain ⟨f, fd, M, _, F, hb⟩ := c.ex
  intro pins s σ H x y v u Q I rx ry h
  obtain ⟨a, dx, fs, rfl, ea, q⟩ := h
  cases ry
  obtain ⟨ox, od, J⟩ := inst_of I ea
  refine wpAny_bind (contains_own I.kIn J M (wpAny_mono (run_fnA (vs := [.ref a, x]) F hr hb (hx σ) I (.cons rfl (.cons rx .nil)) q) (fun r s' z => ?_) fun _ _ z => z))
  obtain ⟨z, H', I', rz, b, rfl, q'⟩ := z
  cases rz
  exact wpAny_truthy_bool (wpAny_pure ⟨.bl b, H', I', rfl, q'⟩)
theorem op_notInO (c : CalK X.prog X.w X.K X.mg X.base CX k C "__contains__" ps sp) (hx : ∀ σ, PassesAt CX X σ E) (hr : Room k X.A) : OpR X (compareOp .NotIn) (rInO C sp E fun b => !b) := by
  obtain ⟨f, fd, M, _, F, hb⟩ := c.ex
  intro pins s σ H x y v u Q I rx ry h
  obtain ⟨a, dx, fs, rfl, ea, q⟩ := h
  cases ry
  obtain ⟨ox, od, J⟩ := inst_of I ea
  refine wpAny_bind (contains_own I.kIn J M (wpAny_mono (run_fnA (vs := [.ref a, x]) F hr hb (hx σ) I (.cons rfl (.cons rx .nil)) q) (fun r s' z => ?_) fun _ _ z => z))
  obtain ⟨z, H', I', rz, b, rfl, q'⟩ := z
  cases rz
  exact wpAny_truthy_bool (wpAny_pure ⟨.bl (!b), H', I', rfl, q'⟩)
/-! ### o[i] -/
theorem sub_own {prog : Program} {w : World} {A : Around} {Ee : Value → Shared → Prop} {s : Shared} {K : PySem.W.Frag} {x C f : Addr} {ox : Obj} {od : Option Obj} {value slice : Expr} {i : Value} {Q : Value → Shared → Prop} (X : K.In s.heap) (I : PySem.W.InstAt s.heap x ox C od) (M : Meth K C "__getitem__" f) (hf : PySem.W.fnIn K f = true)
    (h : wpAny (model prog w) A.in1 (call (.ref f) [.ref x, i]) Q Ee s)
    (hsl : subscripted slice true (.ref x) i = runValue (.builtin "lifetime.subscript" ⟨[.ref x, i], []⟩)) :
    wpAny (model prog w) A (subscriptTail value slice (.ref x) i) Q Ee s := by
  unfold PySem.W.fnIn at hf
  split at hf
  · rename_i e
    unfold subscriptTail getitemInPython
    refine wpAny_bind (wpAny_bind (wpAny_bind (I.type.here ((PySem.W.looks_findIn X M.at_).here ?_))))
    dsimp only
    refine wpAny_bind (wpAny_load (X _ _ e) (wpAny_pure ?_))
    dsimp only
    rw [hsl]
    refine wpAny_bind (wpAny_runValue (codeAny_builtin PySem.W.entry_sub ?_))
    unfold Builtin.«lifetime.subscript»
    refine wpAny_bind (PySem.W.special_fn X I M.at_ (beq_iff_eq.mp M.fn) (wpAny_mono h (fun v s' z => ?_) fun _ _ z => z))
    refine wpAny_pure ?_
    show wpAny (model prog w) A (letTemporaryGo value (.ref x) v >>= fun _ => pure v) Q Ee s'
    exact wpAny_bind (wpAny_letTemporaryGo (wpAny_pure z))
  · cases hf
def OwnIx (b : Expr) : Prop := ∀ (o : Addr) i, subscripted b true (.ref o) i = runValue (.builtin "lifetime.subscript" ⟨[.ref o, i], []⟩)
def tIxO (C : Addr) (sp : Sp) (E : L2.St → XK) (ta tb : TE) : TE := fun σ H Q => ta σ H fun x H1 => tb σ H1 fun y H2 => ∃ a dx fs, x = .ref a ∧ H2 a = some (.ins C dx fs) ∧ sp [.ref a, y] H2 Q (E σ)
theorem pe_ixO {E : L2.St → XK} {a b : Expr} {ta tb : TE} {pos : Pos} (c : CalK X.prog X.w X.K X.mg X.base CX k C "__getitem__" ps sp) (hx : ∀ σ, PassesAt CX X σ (E σ)) (hr : Room (k + 1) X.A) (ha : PE X a ta) (hb : PE X b tb) (hs : OwnIx b) : PE X (.Subscript a b pos) (tIxO C sp E ta tb) := by
  obtain ⟨f, fd, M, hf, F, hbi⟩ := c.ex
  refine ⟨fun pins s σ H Q I h => ?_⟩
  refine Subscript_ (thn (ha.run pins s σ H _ I h) fun v s1 ⟨x, H1, I1, r1, q1⟩ => thn (hb.run pins s1 σ H1 _ I1 q1) fun u s2 ⟨y, H2, I2, r2, q2⟩ => ?_)
  obtain ⟨p, dx, fs, rfl, ea, q⟩ := q2
  cases r1
  obtain ⟨ox, od, J⟩ := inst_of I2 ea
  exact sub_own I2.kIn J M hf (run_fn1 (vs := [.ref p, y]) F hr hbi (hx σ) I2 (.cons rfl (.cons r2 .nil)) q) (hs p u)
/-! ### o[i] = e -/
theorem setItem_own {prog : Program} {w : World} {A : Around} {Ee : Value → Shared → Prop} {s : Shared} {K : PySem.W.Frag} {x C f : Addr} {ox : Obj} {od : Option Obj} {i v : Value} {Q : Unit → Shared → Prop} (X : K.In s.heap) (I : PySem.W.InstAt s.heap x ox C od) (hq : PySem.W.noSeq K C = true) (M : Meth K C "__setitem__" f)
    (h : wpAny (model prog w) A (call (.ref f) [.ref x, i, v]) (fun _ s' => Q () s') Ee s) : wpAny (model prog w) A (setItem (.ref x) i v) Q Ee s := by
  unfold setItem sequenceKey
  refine wpAny_holding (wpAny_bind (wpAny_bind (I.type.here ?_)))
  refine wpAny_bind ((PySem.W.anyM_none X hq).here ?_)
  rw [if_pos (show (!false) = true from rfl)]
  exact wpAny_pure (wpAny_bind (PySem.W.special_fn X I M.at_ (beq_iff_eq.mp M.fn) (wpAny_mono h (fun _ _ z => wpAny_pure z) fun _ _ z => z)))
/-! ### str(o) -/
def rStrO (C : Addr) (sp : Sp) (E : XK) : List V → Hp → VK → Prop := fun xs H Q => ∃ a dx fs, xs = [.ref a] ∧ H a = some (.ins C dx fs) ∧ sp [.ref a] H (fun v H' => ∃ z : Str, v = .str z ∧ Q (.str z) H') E
theorem call_strO (c : CalK X.prog X.w X.K X.mg X.base CX k C "__str__" ps sp) (hx : ∀ σ, PassesAt CX X σ E) (hr : Room (k + 2) X.A) (hu : X.A.units + 4 < cLine) : CallR X (.type "str") (rStrO C sp E) := by
  obtain ⟨f, fd, M, _, F, hb⟩ := c.ex
  intro pins s σ H xs us Q I r h
  obtain ⟨a, dx, fs, rfl, ea, q⟩ := h
  obtain ⟨u, rfl, ru⟩ := vals1 r
  cases ru
  obtain ⟨ox, od, J⟩ := inst_of I ea
  refine PySem.W.kso_call (by show X.A.units + 1 + 1 < cLine; omega) I.kIn J M.at_ M.fn (wpAny_mono (run_fn2 (vs := [.ref a]) F hr hb (hx σ) I (.cons rfl .nil) q) (fun r s' z => ?_) fun _ _ z => z)
  obtain ⟨z, H', I', rz, b, rfl, q'⟩ := z
  obtain ⟨t, rfl⟩ := rz
  exact ⟨.str b, H', I', ⟨t, rfl⟩, q'⟩
/-! ### ==, != -/
/-- the kind of a value beside an own one -/
inductive TyQ (H : Hp) : V → Value → Prop
  | non : TyQ H .non (.type "NoneType")
  | bl (b : Bool) : TyQ H (.bl b) (.type "bool")
  | int (i : Int) : TyQ H (.int i) (.type "int")
  | str (z : Str) : TyQ H (.str z) (.type "str")
  | lst {a : Addr} {xs : List V} (e : H a = some (.lst xs)) : TyQ H (.ref a) (.type "list")
  | tup {a : Addr} {xs : List V} (e : H a = some (.tup xs)) : TyQ H (.ref a) (.type "tuple")
  | ins {a C dx : Addr} {fs : List (Str × V)} (e : H a = some (.ins C dx fs)) : TyQ H (.ref a) (.ref C)
theorem looks_ref {M : Model} {h : Heap} {a : Addr} {o : Obj} {t : Value} (ho : h.get? a = some o) (hc : o.cls = t) : PySem.W.Looks M h (typeOf (.ref a)) t := fun A Q E s k q => wpAny_typeOf_ref (k _ _ ho) (by rw [hc]; exact q)
theorem TyQ.looks {pins : List (Addr × Obj)} {σ : L2.St} {H : Hp} {s : Shared} (I : Inv X pins σ H s) {y : V} {u t : Value} (h : TyQ H y t) (r : RelV y u) : PySem.W.Looks (model X.prog X.w) s.heap (typeOf u) t := by
  cases h with
  | non => obtain rfl : u = Value.none := r; exact .of_pure rfl
  | bl b => obtain rfl : u = Value.bool b := r; exact .of_pure rfl
  | int i => obtain ⟨t, rfl⟩ := r; exact .of_pure rfl
  | str z => obtain ⟨t, rfl⟩ := r; exact .of_pure rfl
  | lst e =>
    rename_i a xs
    obtain rfl : u = Value.ref a := r
    obtain ⟨_, its, n, rv, hg⟩ : ObjOk X.prog X.w H s.heap a (.lst xs) := I.hok a _ e
    exact looks_ref hg rfl
  | tup e =>
    rename_i a xs
    obtain rfl : u = Value.ref a := r
    obtain ⟨_, its, rv, o, hg, hc, n, hd⟩ : ObjOk X.prog X.w H s.heap a (.tup xs) := I.hok a _ e
    exact looks_ref hg hc
  | ins e =>
    rename_i a C dx fs
    obtain rfl : u = Value.ref a := r
    obtain ⟨ox, od, J⟩ := inst_of I e
    exact J.type
def kinds0 : List Value := [.type "NoneType", .type "bool", .type "int", .type "str", .type "list", .type "tuple"]
/-- beside such values the own class's method is asked first -/
def NF (K : PySem.W.Frag) (C : Addr) : Prop := ∀ t ∈ kinds0, PySem.W.notFirst K C t = true
def nfB (K : PySem.W.Frag) (C : Addr) : Bool := kinds0.all fun t => PySem.W.notFirst K C t
theorem nfB_ok {K : PySem.W.Frag} {C : Addr} (h : nfB K C = true) : NF K C := List.all_eq_true.mp h
/-- a value of another kind, or of the class itself -/
def TyB (C : Addr) (H : Hp) (y : V) : Prop := ∃ t, TyQ H y t ∧ (t ∈ kinds0 ∨ t = .ref C)
theorem TyB.ins {C a dx : Addr} {H : Hp} {fs : List (Str × V)} (e : H a = some (.ins C dx fs)) : TyB C H (.ref a) := ⟨_, .ins e, .inr rfl⟩
theorem NF.of {K : PySem.W.Frag} {C : Addr} {t : Value} (n : NF K C) (h : t ∈ kinds0 ∨ t = .ref C) : PySem.W.notFirst K C t = true := by
  rcases h with h | h
  · exact n t h
  · rw [h]
    unfold PySem.W.notFirst
    simp
theorem cmp_own {prog : Program} {w : World} {A : Around} {Ee : Value → Shared → Prop} {s : Shared} {K : PySem.W.Frag} {x C : Addr} {ox : Obj} {od : Option Obj} {b tb : Value} {op : CmpOp} {Q : Value → Shared → Prop} (hu : A.units < cLine) (X : K.In s.heap) (I : PySem.W.InstAt s.heap x ox C od) (hb : PySem.W.Looks (model prog w) s.heap (typeOf b) tb) (hn : PySem.W.notFirst K C tb = true)
    (one : wpAny (model prog w) A (tryCompare (.ref x) (cmpInfo op).2.1 b) (fun r s' => ∃ v, r = some v ∧ Q v s') Ee s) : wpAny (model prog w) A (richCompare op (.ref x) b) Q Ee s := by
  unfold richCompare
  simp only [oneThing_ref]
  refine wpAny_holding (wpAny_bind (wpAny_cRoomFor hu ?_))
  refine wpAny_bind (I.type.here (wpAny_bind (hb.here ?_)))
  split
  · rename_i q
    have e : PySem.W.subIn K tb (.ref C) = some false := by
      rcases Bool.or_eq_true_iff.mp hn with e | e
      · rw [beq_iff_eq.mp e] at q; simp at q
      · exact beq_iff_eq.mp e
    refine wpAny_bind ((PySem.W.looks_subIn X e).here ?_)
    simp only [Bool.false_eq_true, if_false]
    refine wpAny_bind (wpAny_mono one (fun r s' z => ?_) fun _ _ e => e)
    obtain ⟨v, rfl, hq⟩ := z
    exact wpAny_pure hq
  · refine wpAny_bind (wpAny_pure ?_)
    simp only [Bool.false_eq_true, if_false]
    refine wpAny_bind (wpAny_mono one (fun r s' z => ?_) fun _ _ e => e)
    obtain ⟨v, rfl, hq⟩ := z
    exact wpAny_pure hq
def rEqO (C : Addr) (sp : Sp) (E : XK) (g : Bool → Bool) : R2 := fun x y H Q => ∃ a dx fs, x = .ref a ∧ H a = some (.ins C dx fs) ∧ TyB C H y ∧ sp [.ref a, y] H (fun v H' => ∃ b, v = .bl b ∧ Q (.bl (g b)) H') E
theorem op_eqO (c : CalK X.prog X.w X.K X.mg X.base CX k C "__eq__" ps sp) (nf : NF X.K C) (hx : ∀ σ, PassesAt CX X σ E) (hr : Room k X.A) (hu : X.A.units < cLine) : OpR X (compareOp .Eq) (rEqO C sp E fun b => b) := by
  obtain ⟨f, fd, M, _, F, hb⟩ := c.ex
  intro pins s σ H x y v u Q I rx ry h
  obtain ⟨a, dx, fs, rfl, ea, ⟨t, ht, hk⟩, q⟩ := h
  cases rx
  obtain ⟨ox, od, J⟩ := inst_of I ea
  show wpAny _ _ (richCompare .Eq (.ref a) u) _ _ _
  refine cmp_own hu I.kIn J (ht.looks I ry) (nf.of hk) ?_
  unfold tryCompare
  refine wpAny_bind (PySem.W.ifBound_K I.kIn J M.at_ M.fn (wpAny_mono (run_fnA (vs := [.ref a, y]) F hr hb (hx σ) I (.cons rfl (.cons ry .nil)) q) (fun r s' z => ?_) fun _ _ z => z))
  obtain ⟨z, H', I', rz, b, rfl, q'⟩ := z
  cases rz
  exact wpAny_pure ⟨_, rfl, .bl b, H', I', rfl, q'⟩
/-- the class has no __ne__ of its own -/
structure NoNe (K : PySem.W.Frag) (C : Addr) : Prop where
  at_ : PySem.W.findIn K (.ref C) "__ne__" = some (some (.builtin "object.__ne__"))
  ob : PySem.W.mroIn K C (.type "object") = some true
def noNeB (K : PySem.W.Frag) (C : Addr) : Bool := decide (PySem.W.findIn K (.ref C) "__ne__" = some (some (.builtin "object.__ne__"))) && decide (PySem.W.mroIn K C (.type "object") = some true)
theorem noNeB_ok {K : PySem.W.Frag} {C : Addr} (h : noNeB K C = true) : NoNe K C := ⟨of_decide_eq_true (Bool.and_eq_true_iff.mp h).1, of_decide_eq_true (Bool.and_eq_true_iff.mp h).2⟩
theorem bind_ne (self : Value) : bindSpecial (.builtin "object.__ne__") self = pure (.builtin "object.__ne__", [self]) := by kernel_rfl
theorem op_neO (c : CalK X.prog X.w X.K X.mg X.base CX k C "__eq__" ps sp) (nf : NF X.K C) (nn : NoNe X.K C) (hx : ∀ σ, PassesAt CX X σ E) (hr : Room (k + 1) X.A) (hu : X.A.units + 4 < cLine) : OpR X (compareOp .NotEq) (rEqO C sp E fun b => !b) := by
  obtain ⟨f, fd, M, _, F, hb⟩ := c.ex
  intro pins s σ H x y v u Q I rx ry h
  obtain ⟨a, dx, fs, rfl, ea, ⟨t, ht, hk⟩, q⟩ := h
  cases rx
  obtain ⟨ox, od, J⟩ := inst_of I ea
  show wpAny _ _ (richCompare .NotEq (.ref a) u) _ _ _
  refine cmp_own (by omega) I.kIn J (ht.looks I ry) (nf.of hk) ?_
  unfold tryCompare
  simp only [callSpecialIfBound?, bindSpecialIfBound?]
  refine wpAny_bind (wpAny_holding (wpAny_bind (wpAny_bind (wpAny_bind (J.type.here ((PySem.W.looks_findIn I.kIn nn.at_).here ?_))))))
  refine wpAny_bind (wpAny_askSetting (wpAny_ite ?_))
  have body : wpAny (model X.prog X.w) X.A (call (.builtin "object.__ne__") ([.ref a] ++ [u]) >>= fun v => pure (some v)) (fun r s' => wpAny (model X.prog X.w) X.A (match r with
      | some .notImplemented | none => pure none
      | some v => pure (some v)) (fun r s' => ∃ v, r = some v ∧ EP X pins σ Q v s') X.xe s') X.xe s := by
    refine wpAny_bind (wpAny_call (codeAny_call_builtin (by decide +kernel) PySem.F.cmpEntry_ne (PySem.W.check_slot (i := "object.__ne__") (owner := "object") (n := "__ne__") (by decide +kernel) (by decide +kernel) (J.type.andThen (PySem.W.looks_mroIn I.kIn nn.ob)) (PySem.F.cmpArgs_ne _ _) ?_)))
    unfold Builtin.«object.__ne__»
    refine wpAny_bind (m := slotArgs "__ne__" 1 _) (wpAny_pure ?_)
    refine wpAny_bind (m := cRoomFor _ _) (wpAny_cRoomFor (by show X.A.units + 1 < cLine; omega) ?_)
    refine wpAny_bind (m := callSpecialIfBound? (.ref a) (Str.ofString "__eq__") _) (PySem.W.ifBound_K I.kIn J M.at_ M.fn (wpAny_mono (run_fn1 (vs := [.ref a, y]) F hr hb (hx σ) I (.cons rfl (.cons ry .nil)) q) (fun r s' z => ?_) fun _ _ z => z))
    obtain ⟨z, H', I', rz, b, rfl, q'⟩ := z
    cases rz
    refine wpAny_bind (m := truthy (.bool b)) (wpAny_truthy_bool ?_)
    exact wpAny_pure (wpAny_pure (wpAny_pure ⟨_, rfl, .bl (!b), H', I', rfl, q'⟩))
  split
  · exact wpAny_bind ((PySem.W.Looks.of_pure (bind_ne _)).here (wpAny_pure (by exact body)))
  · exact wpAny_tryCatch (wpAny_bind ((PySem.W.Looks.of_pure (bind_ne _)).here (wpAny_pure (by exact body))))
end
/-! ### a class whose __init__ has a star -/
structure CalR (P : Program) (w : World) (K : PySem.W.Frag) (mg : Str → Option Value) (base : Heap) (k : Nat) (x : Str) (C : Addr) (sp : Sp) : Prop where
  ex : ∃ f, Mk K C f ∧ FnR P w K mg base (L2.CX P w) k f sp ∧ mg x = some (.ref C)
def tMakeT (C : Addr) (sp : Sp) (E : L2.St → XK) (t : TA) : TE := fun σ H Q => t σ H fun vs H1 => ∀ x dx, H1 x = none → H1 dx = none → dx ≠ x → sp (.ref x :: vs) (upd (upd H1 dx (.own x)) x (.ins C dx [])) (fun v H2 => v = .non ∧ Q (.ref x) H2) (E σ)
theorem pe_makeRS {X : Cx} {k : Nat} {x : Str} {C : Addr} {sp : Sp} {e : Expr} {es : List Expr} {p pos : Pos} {t : TA} {E : L2.St → XK} (c : CalR X.prog X.w X.K X.mg X.base k x C sp) (hx : ∀ σ, PassesAt (L2.CX X.prog X.w) X σ (E σ)) (hr : Room (k + 1) X.A) (hg : Gl X x)
    (ha : PA X (e :: es) t) (hdb : (x == ("__debug__" : Str)) = false := by decide) (he : starEach (e :: es) X.env = (false, eval e X.env) :: starEach es X.env := by rfl) (hpl : (backTo pos (starEach es X.env)).any (·.1) = false := by rfl) :
    PE X (.Call (.Name x p) (e :: es) [] pos) (tMakeT C sp E t) := by
  obtain ⟨f, M, F, hm⟩ := c.ex
  refine ⟨fun pins s σ H Q I h => wpAny_Call_Name_kw (ld_glob I hg hm ?_ hdb)⟩
  refine PySem.W.callWith_K (h₀ := X.base) I.ok.mod.kin M.kp (thn (ha.run pos pins s σ H _ I h) fun us s1 ⟨vs, H1, J, rv, q⟩ => ⟨J.kIn, ?_⟩) he hpl
  have z := q (s1.heap.objs.size + 1) s1.heap.objs.size (J.hok.fresh (Nat.le_succ _)) (J.hok.fresh (Nat.le_refl _)) (Nat.ne_of_lt (Nat.lt_succ_self _))
  have J2 := Inv.made (C := C) J
  have r2 : Vals (V.ref (s1.heap.objs.size + 1) :: vs) (Value.ref (s1.heap.objs.size + 1) :: us) := .cons rfl rv
  refine wpAny_call (make_map (f := f) J.kIn M.makes M.init (beq_iff_eq.mp M.fn) (codeAny_mono (F _ X.stack _ _ (Value.ref (s1.heap.objs.size + 1) :: us) _ _ (E σ) (hr.make C us []) (J2.env0.make C us []) r2 z) fun r s2 hq => ?_))
  match r, hq with
  | .error e, hq => exact hx σ pins _ _ e s2 J2 hq
  | .ok (.ret u), hq =>
    obtain ⟨v, H2, J3, r3, ev, q3⟩ := J2.after hq
    subst ev
    exact ⟨r3, .ref _, H2, J3, rfl, q3⟩
theorem starOk {CX : CXT} {P : Program} {w : World} {K : PySem.W.Frag} {mg : Str → Option Value} {base : Heap} {x qual : Str} {params : Arguments} {body : List Stmt} {scope : Scope} {kws : List (Str × V)} {f : Addr} {fd : FuncData} {N : List Str} {ps : List Str} {pv' : Str} {k : Nat} {sp : Sp} (F : FunD K x qual params body scope [] kws f fd) (S : FnScope N (ps ++ [pv']) scope) (hCX : StX.CXUp CX)
    (hb : ∀ (kV doc pm : Value) (an : Option Addr) (cdv ct : Value) (us rest : List Value), us.length = ps.length → bindArgs (PySem.W.fnOf x qual params body scope .none kV doc pm an cdv ct) ⟨us ++ rest, []⟩ = (newTuple rest >>= fun t => pure (ps.zip us ++ [(pv', t)])))
    (hbody : ∀ (cdv : Value) (A : Around) (outer : List Env) (s : Shared) (H : Hp) (vs : List V) (Q : VK) (E : XK), Room k (A.deeper (envOfC qual scope s.heap.objs.size f cdv)) → sp vs H Q E →
      ∃ t, PSs (cxOf CX P w K mg base N qual scope f cdv A outer s H E) body t ∧ t { nx := fun _ H' => Q .non H', rt := Q } (start N vs) H) :
    FnR P w K mg base CX (k + 1) f (fun vs H Q E => ∃ ws rest, vs = ws ++ rest ∧ ws.length = ps.length ∧ rest.length ≤ sizeLine ∧ ∀ p, H p = none → sp (ws ++ [V.ref p]) (upd H p (.tup rest)) Q E) := by
  obtain ⟨oc, od, dV, kV, doc, pm, an, cdv, ct, osl, rfl, lk, hcd, hD, hK⟩ := F.ex
  rcases hD with ⟨_, rfl⟩ | ⟨e, _⟩
  · exact StX.fn_star lk hcd S hCX (fun us rest hl => hb kV doc pm an cdv ct us rest hl) fun A outer s H vs Q E hr h => hbody cdv A outer s H vs Q E hr h
  · exact absurd rfl e
end Uo

namespace Ub
open PySem PySem.Spec PyProof.Rows L2 Ur
/-! ### the law's own state -/
structure StAt (H : Hp) (st g l : Addr) : Prop where
  ex : ∃ (gs ls : List Int) (c a : Int), H st = some (.lst [.ref g, .ref l, .int c, .int a]) ∧ H g = some (.lst (gs.map V.int)) ∧ H l = some (.lst (ls.map V.int)) ∧ gs.length ≤ 63 ∧ ls.length ≤ 63 ∧ 0 ≤ a ∧ a < 4611686018427387904
  n1 : st ≠ g
  n2 : st ≠ l
  n3 : g ≠ l
def Kp (st g l : Addr) (H H' : Hp) : Prop := ∀ b o, H b = some o → b ≠ st → b ≠ g → b ≠ l → H' b = some o
theorem Kp.refl {st g l : Addr} (H : Hp) : Kp st g l H H := fun _ _ h _ _ _ => h
theorem Kp.trans {st g l : Addr} {H H1 H2 : Hp} (a : Kp st g l H H1) (b : Kp st g l H1 H2) : Kp st g l H H2 := fun c o h h1 h2 h3 => b c o (a c o h h1 h2 h3) h1 h2 h3
theorem Kp.of {st g l : Addr} {H H1 : Hp} (a : Same H H1) : Kp st g l H H1 := fun c o h _ _ _ => a c o h
theorem StAt.same {st g l : Addr} {H H1 : Hp} (s : StAt H st g l) (a : Same H H1) : StAt H1 st g l := by
  obtain ⟨⟨gs, ls, c, x, h1, h2, h3, r⟩, n1, n2, n3⟩ := s
  exact ⟨⟨gs, ls, c, x, a _ _ h1, a _ _ h2, a _ _ h3, r⟩, n1, n2, n3⟩
theorem StAt.back {st g l : Addr} {H H1 : Hp} (s : StAt H1 st g l) (k : Kp st g l H H1) {p : Addr} (h : H1 p = none) : H p = none := by
  obtain ⟨⟨gs, ls, c, x, h1, h2, h3, r⟩, n1, n2, n3⟩ := s
  cases e : H p with
  | none => rfl
  | some o => rw [k p o e (fun z => by rw [z, h1] at h; cases h) (fun z => by rw [z, h2] at h; cases h) (fun z => by rw [z, h3] at h; cases h)] at h; cases h
theorem small63 {n : Nat} (h : n ≤ 63) : n ≤ sizeLine := Nat.le_trans h (by decide)
theorem m100 {x m : Int} (h : 0 < m) (h2 : m ≤ 1000000000000000000000000000000) : CDivW x m := by
  have e : (2 : Nat) ^ 100 = 1267650600228229401496703205376 := by decide
  exact wide_div (b := 100) h (by omega) (by decide) (by decide)
structure DrI (H0 H : Hp) (st g l : Addr) (gs ls : List Int) (c a : Int) : Prop where
  h1 : H st = some (.lst [.ref g, .ref l, .int c, .int a])
  h2 : H g = some (.lst (gs.map V.int))
  h3 : H l = some (.lst (ls.map V.int))
  lg : gs.length ≤ 63
  kp : Kp st g l H0 H
theorem mulR {i j : Int} (h : -18446744073709551616 < j ∧ j < 18446744073709551616) : CMul i j := .inr h
def spDraw (st g l : Addr) (m : Int) (H : Hp) (Q : VK) : Prop := ∀ d H', 0 ≤ d → d < m → StAt H' st g l → Kp st g l H H' → Q (.int d) H'
def sp_draw : Sp := fun vs H Q _ => ∃ st g l m, vs = [.ref st, .int m] ∧ 0 < m ∧ m ≤ 1000000000000000000000000000000 ∧ StAt H st g l ∧ spDraw st g l m H Q
def sp_start (K : PySem.W.Frag) : Sp := fun vs H Q _ => ∃ (a : Addr) (ns : List Int), vs = [.ref a] ∧ SqL K H a (ns.map V.int) ∧ ns.length ≤ 63 ∧ ∀ st g l H', H st = none → H g = none → H l = none → StAt H' st g l → Same H H' → Q (.ref st) H'
def absI (i : Int) : Int := if i < 0 then -i else i
def kept : List Str := ["document", "update", "set", "new", "edit", "merge", "then", "old", "copy"]
/-! ### words -/
def letters : Str := "abcdefghijklmnopqrstuvwxyz"
def keptV : List V := kept.map V.str
def isLet (c : Nat) : Bool := decide (c ∈ letters.cps.toList)
def isWord (z : Str) : Bool := decide (1 ≤ z.length) && (decide (z.length ≤ 8) && (z.cps.toList.all isLet && !inV (.str z) keptV))
theorem split_kept : Txt.split "document update set new edit merge then old copy" " " = kept := by decide +kernel
theorem kept_flat : keptV.all flatV = true := by decide +kernel
/-- what both readings say -/
theorem good_eq (z : Str) (h : inV (.str z) keptV = false) (h0 : ¬ z.length = 0) (h8 : ¬ 8 < z.length) : decide (((z.cps.toList.filter isLet).length : Int) = (z.length : Int)) = isWord z := by
  have e1 : decide (1 ≤ z.length) = true := decide_eq_true (by omega)
  have e2 : decide (z.length ≤ 8) = true := decide_eq_true (by omega)
  unfold isWord
  rw [e1, e2, h]
  have el : z.length = z.cps.toList.length := by simp [Str.length]
  by_cases ha : z.cps.toList.all isLet = true
  · rw [ha]
    have := List.filter_eq_self.mpr (List.all_eq_true.mp ha)
    rw [this]
    simp [el]
  · rw [Bool.not_eq_true] at ha
    rw [ha]
    simp only [Bool.false_and, Bool.and_false]
    refine decide_eq_false fun e => ?_
    have e3 : (z.cps.toList.filter isLet).length = z.cps.toList.length := by
      rw [← el]; omega
    have := List.length_filter_eq_length_iff.mp e3
    rw [List.all_eq_true.mpr this] at ha
    cases ha
theorem isWord_len {z : Str} (h : isWord z = true) : 1 ≤ z.length ∧ z.length ≤ 8 := by
  unfold isWord at h
  simp only [Bool.and_eq_true, decide_eq_true_eq] at h
  exact ⟨h.1, h.2.1⟩
def sp_of : Sp := fun vs H Q _ => ∃ st g l p xs, vs = [.ref st, .ref p] ∧ H p = some (.lst xs) ∧ p ≠ st ∧ p ≠ g ∧ p ≠ l ∧ xs ≠ [] ∧ xs.length ≤ 1000 ∧ StAt H st g l ∧ ∀ v H', v ∈ xs → StAt H' st g l → Kp st g l H H' → Q v H'
/-- a value that is no part of the program -/
def OddAt (N : List Addr) (H : Hp) (x : V) : Prop := ∃ d ∈ odds, DtV N H x d
theorem OddAt.same {N : List Addr} {H H' : Hp} {x : V} (h : OddAt N H x) (s : Same H H') : OddAt N H' x := by
  obtain ⟨d, h1, h2⟩ := h
  exact ⟨d, h1, h2.same s⟩
def NotStr (K : PySem.W.Frag) (H : Hp) (x : V) : Prop := ∃ T : String, TyX K H x (.type T) ∧ kitB T "str" = some false
theorem odds_str : ∀ d ∈ odds, (match d with
  | .str z => decide (z.length ≤ 10)
  | _ => true) = true := List.all_eq_true.mp (by decide +kernel)
theorem OddAt.kind {K : PySem.W.Frag} {N : List Addr} {H : Hp} {x : V} (h : OddAt N H x) : (∃ z : Str, x = .str z ∧ z.length ≤ 10) ∨ NotStr K H x := by
  obtain ⟨d, hd, h⟩ := h
  cases h with
  | str z => exact .inl ⟨z, rfl, of_decide_eq_true (odds_str _ hd)⟩
  | non => exact .inr ⟨_, .base .non, by decide +kernel⟩
  | bl b => exact .inr ⟨_, .base (.bl b), by decide +kernel⟩
  | int i => exact .inr ⟨_, .base (.int i), by decide +kernel⟩
  | lst h1 => exact .inr ⟨_, .base (.lst h1), by decide +kernel⟩
  | tup h1 => exact .inr ⟨_, .base (.tup h1), by decide +kernel⟩
def sp_odd : Sp := fun vs H Q _ => ∃ st g l, vs = [.ref st] ∧ StAt H st g l ∧ ∀ v H', OddAt [st, g, l] H' v → StAt H' st g l → Kp st g l H H' → Q v H'
def sp_is_word (K : PySem.W.Frag) : Sp := fun vs H Q _ => ∃ x, vs = [x] ∧ ((∃ z : Str, x = .str z ∧ z.length ≤ 10000 ∧ ∀ H', Same H H' → Q (.bl (isWord z)) H') ∨ (NotStr K H x ∧ ∀ H', Same H H' → Q (.bl false) H'))
def sp_good : Sp := fun vs H Q _ => ∃ z : Str, vs = [.str z] ∧ z.length ≤ 10000 ∧ ∀ H', Same H H' → Q (.bl (isWord z)) H'
theorem sz4 {n : Nat} (h : n ≤ 10000) : n ≤ sizeLine := Nat.le_trans h (by decide)
theorem szI {n : Nat} (h : n ≤ 10000) : (n : Int) < 9223372036854775808 := by omega
theorem sub_len {α : Type} [BEq α] [LawfulBEq α] : ∀ (l m : List α), l.Nodup → (∀ x ∈ l, x ∈ m) → l.length ≤ m.length
  | [], _, _, _ => Nat.zero_le _
  | x :: r, m, hn, hs => by
    have hx : x ∈ m := hs x List.mem_cons_self
    have hr : r.Nodup := (List.nodup_cons.mp hn).2
    have hxr : x ∉ r := (List.nodup_cons.mp hn).1
    have ih := sub_len r (m.erase x) hr fun y hy => (List.mem_erase_of_ne (show y ≠ x from fun e => hxr (e ▸ hy))).mpr (hs y (List.mem_cons_of_mem _ hy))
    rw [List.length_erase_of_mem hx] at ih
    have : 0 < m.length := List.length_pos_of_mem hx
    rw [List.length_cons]
    omega
theorem app_cps (x y : Str) : (x ++ y).cps.toList = x.cps.toList ++ y.cps.toList := by
  show (Str.append x y).cps.toList = _
  simp [Str.append]
theorem len_app (x y : Str) : (x ++ y).length = x.length + y.length := by
  have := congrArg List.length (app_cps x y)
  simpa [Str.length] using this
theorem join_cps : ∀ ws : List Str, (Str.join "" ws).cps.toList = ws.flatMap fun w => w.cps.toList
  | [] => rfl
  | [x] => by simp [Str.join]
  | x :: y :: r => by
    have ih := join_cps (y :: r)
    show (x ++ "" ++ Str.join "" (y :: r)).cps.toList = _
    rw [app_cps, app_cps, ih]
    have e : (("" : Str)).cps.toList = [] := by decide +kernel
    rw [e]
    simp
theorem len_toList (z : Str) : z.cps.toList.length = z.length := by simp [Str.length]
/-- a text of letters -/
def Low (z : Str) : Prop := ∀ c ∈ z.cps.toList, isLet c = true
theorem cut_low {z : Str} {lo hi : Option Int} (h : Low z) : Low (cutS z lo hi) := fun c hc => by
  unfold cutS at hc
  exact h c (List.mem_of_mem_drop (List.mem_of_mem_take (by simpa using hc)))
theorem cut_7 (z : Str) : (cutS z none (some 7)).length ≤ 7 := by
  have e : HT.sIx z.length z.length (some 7) ≤ 7 := by
    rw [show (some (7 : Int)) = some (((7 : Nat) : Int)) from rfl, HT.sIx_nat]
    omega
  unfold cutS
  show ((z.cps.toList.drop _).take _).toArray.size ≤ 7
  rw [List.size_toArray, List.length_take]
  omega
def way (z : Str) (c : Nat) : Str := cutS z none (some 7) ++ ⟨#[c]⟩
theorem way_low {z : Str} {c : Nat} (h : Low z) (hc : isLet c = true) : Low (way z c) := fun d hd => by
  unfold way at hd
  rw [app_cps] at hd
  rcases List.mem_append.mp hd with hd | hd
  · exact cut_low h d hd
  · have : d = c := by simpa using hd
    rw [this]; exact hc
theorem way_len (z : Str) (c : Nat) : 1 ≤ (way z c).length ∧ (way z c).length ≤ 8 := by
  have h7 := cut_7 z
  have e : ((⟨#[c]⟩ : Str)).length = 1 := rfl
  unfold way
  rw [len_app, e]
  omega
theorem way_inj {z : Str} {c d : Nat} (h : way z c = way z d) : c = d := by
  have h1 := congrArg (fun s : Str => s.cps.toList) h
  unfold way at h1
  simp only [app_cps] at h1
  have h2 := List.append_cancel_left h1
  simpa using h2
theorem lets_nd : letters.cps.toList.Nodup := by decide +kernel
theorem lets_len : letters.cps.toList.length = 26 := by decide +kernel
def ways (z : Str) : List Str := z :: letters.cps.toList.map (way z)
theorem ways_ex (z : Str) (bad : List Str) (hb : bad.length ≤ 25) : ∃ c ∈ letters.cps.toList, way z c ∉ bad := by
  refine Classical.byContradiction fun h => ?_
  have hs : ∀ x ∈ letters.cps.toList.map (way z), x ∈ bad := fun x hx => by
    obtain ⟨c, hc, rfl⟩ := List.mem_map.mp hx
    exact Classical.byContradiction fun hn => h ⟨c, hc, hn⟩
  have hn : (letters.cps.toList.map (way z)).Nodup := by
    unfold List.Nodup
    rw [List.pairwise_map]
    exact lets_nd.imp fun hne e => hne (way_inj e)
  have := sub_len _ _ hn hs
  rw [List.length_map, lets_len] at this
  omega
theorem inV_str (z : Str) : ∀ ws : List Str, inV (.str z) (ws.map V.str) = decide (z ∈ ws)
  | [] => rfl
  | w :: r => by
    have ih := inV_str z r
    unfold inV at ih ⊢
    rw [List.map_cons, List.any_cons, ih]
    show ((w == z) || decide (z ∈ r)) = decide (z ∈ w :: r)
    by_cases e : w = z
    · subst e; simp
    · have e2 : (w == z) = false := beq_eq_false_iff_ne.mpr e
      rw [e2]
      have : ¬ z = w := fun q => e q.symm
      simp [this]
theorem isWord_iff {z : Str} : isWord z = true ↔ 1 ≤ z.length ∧ z.length ≤ 8 ∧ Low z ∧ z ∉ kept := by
  unfold isWord keptV
  rw [inV_str]
  simp only [Bool.and_eq_true, decide_eq_true_eq, Bool.not_eq_true', decide_eq_false_iff_not, List.all_eq_true]
  exact Iff.rfl
def sp_word : Sp := fun vs H Q _ => ∃ (st g l t : Addr) (taken : List Str), vs = [.ref st, .ref t] ∧ H t = some (.lst (taken.map V.str)) ∧ t ≠ st ∧ t ≠ g ∧ t ≠ l ∧ taken.length ≤ 16 ∧ StAt H st g l ∧ ∀ (z : Str) H', isWord z = true → z ∉ taken → StAt H' st g l → Kp st g l H H' → Q (.str z) H'
theorem StAt.ne {H : Hp} {st g l p : Addr} (S : StAt H st g l) (h : H p = none) : p ≠ st ∧ p ≠ g ∧ p ≠ l := by
  obtain ⟨⟨_, _, _, _, h1, h2, h3, _⟩, _⟩ := S
  exact ⟨(ne_of_none h1 h).symm, (ne_of_none h2 h).symm, (ne_of_none h3 h).symm⟩
theorem flat_strs (ws : List Str) : (ws.map V.str).all flatV = true := by
  rw [List.all_eq_true]
  intro x hx
  obtain ⟨w, _, rfl⟩ := List.mem_map.mp hx
  rfl
theorem StAt.upd {H : Hp} {st g l p : Addr} {o : HO} (S : StAt H st g l) (h1 : p ≠ st) (h2 : p ≠ g) (h3 : p ≠ l) : StAt (upd H p o) st g l := by
  obtain ⟨⟨gs, ls, c, a, e1, e2, e3, r⟩, n1, n2, n3⟩ := S
  exact ⟨⟨gs, ls, c, a, by rw [upd_ne h1.symm]; exact e1, by rw [upd_ne h2.symm]; exact e2, by rw [upd_ne h3.symm]; exact e3, r⟩, n1, n2, n3⟩
theorem mul_len (z : Str) (n : Nat) : (Txt.mul z (n : Int)).length = z.length * n := by
  have h := len_mul z (n : Int)
  have e : (if decide ((n : Int) < 0) = true then (0 : Int) else (n : Int)) = (n : Int) := by
    rw [decide_eq_false (by omega)]
    rfl
  rw [e] at h
  have : (((Txt.mul z (n : Int)).length : Nat) : Int) = ((z.length * n : Nat) : Int) := by rw [h, Int.natCast_mul]
  omega
theorem memS {P : Str → Prop} {ws : List Str} {x : V} {i : Nat} (h : ∀ y ∈ ws, P y) (hx : (ws.map V.str)[i]? = some x) : ∃ y, x = .str y ∧ P y := by
  obtain ⟨y, hy, rfl⟩ := List.mem_map.mp (List.mem_of_getElem? hx)
  exact ⟨y, rfl, h y hy⟩
theorem kept_len : ∀ x ∈ kept, x.length ≤ 8 := by decide +kernel
end Ub

namespace Ub
open PySem PySem.Spec PyProof.Rows L2
theorem sz5 {n : Nat} (h : n ≤ 100000) : n ≤ sizeLine := Nat.le_trans h (by decide)
theorem natSum (l : List Nat) : ((l.sum : Nat) : Int) = (l.map fun (n : Nat) => ((n : Nat) : Int)).sum := by
  induction l with
  | nil => rfl
  | cons a r ih => rw [List.sum_cons, List.map_cons, List.sum_cons, ← ih]; omega
/-! ### trees: the fields one behind the other; none: a plain value -/
inductive Tr where
  | nil
  | cons (w : Str) (t r : Tr)
namespace Tr
def isNil : Tr → Bool
  | nil => true
  | cons _ _ _ => false
def fields : Tr → List (Str × Tr)
  | nil => []
  | cons w t r => (w, t) :: fields r
def ofFields : List (Str × Tr) → Tr
  | [] => nil
  | (w, t) :: r => cons w t (ofFields r)
theorem of_fields : ∀ t : Tr, ofFields t.fields = t
  | nil => rfl
  | cons w t r => by
    show cons w t (ofFields r.fields) = _
    rw [of_fields r]
theorem fields_of : ∀ l : List (Str × Tr), (ofFields l).fields = l
  | [] => rfl
  | (w, t) :: r => by
    show (w, t) :: (ofFields r).fields = _
    rw [fields_of r]
/-- records, plain values, depth of the fields; of the tree -/
def srec : Tr → Nat
  | nil => 0
  | cons _ t r => (if t.isNil then 0 else 1 + srec t) + srec r
def recs (t : Tr) : Nat := if t.isNil then 0 else 1 + srec t
def spla : Tr → Nat
  | nil => 0
  | cons _ t r => (if t.isNil then 1 else spla t) + spla r
def plains (t : Tr) : Nat := if t.isNil then 1 else spla t
def sdep : Tr → Nat
  | nil => 0
  | cons _ t r => max (if t.isNil then 0 else 1 + sdep t) (sdep r)
def depth (t : Tr) : Nat := if t.isNil then 0 else 1 + sdep t
def pieces : Tr → List Str
  | nil => []
  | cons w t r => (w ++ ": " ++ (if t.isNil then (".": Str) else "{" ++ Str.join ", " (pieces t) ++ "}")) :: pieces r
def text (t : Tr) : Str := if t.isNil then "." else "{" ++ Str.join ", " (pieces t) ++ "}"
theorem srec_eq : ∀ t : Tr, srec t = (t.fields.map fun p => recs p.2).sum
  | nil => rfl
  | cons w t r => by
    show (if t.isNil then 0 else 1 + srec t) + srec r = ((recs t) :: (r.fields.map fun p => recs p.2)).sum
    rw [List.sum_cons, srec_eq r]
    rfl
theorem spla_eq : ∀ t : Tr, spla t = (t.fields.map fun p => plains p.2).sum
  | nil => rfl
  | cons w t r => by
    show (if t.isNil then 1 else spla t) + spla r = ((plains t) :: (r.fields.map fun p => plains p.2)).sum
    rw [List.sum_cons, spla_eq r]
    rfl
theorem pieces_eq : ∀ t : Tr, pieces t = t.fields.map fun p => p.1 ++ ": " ++ text p.2
  | nil => rfl
  | cons w t r => by
    show (w ++ ": " ++ text t) :: pieces r = _
    rw [pieces_eq r]
    rfl
theorem sdep_mem : ∀ {t : Tr} {p : Str × Tr}, p ∈ t.fields → depth p.2 ≤ sdep t
  | nil, p, h => by cases h
  | cons w t r, p, h => by
    rcases List.mem_cons.mp h with rfl | h
    · exact Nat.le_max_left _ _
    · exact Nat.le_trans (sdep_mem h) (Nat.le_max_right _ _)
theorem sdep_at : ∀ {t : Tr}, t.isNil = false → ∃ p ∈ t.fields, depth p.2 = sdep t
  | nil, h => by cases h
  | cons w t nil, _ => ⟨(w, t), List.mem_cons_self, by show depth t = max (depth t) 0; omega⟩
  | cons w t (cons w2 t2 r), _ => by
    obtain ⟨p, hp, e⟩ := sdep_at (t := cons w2 t2 r) rfl
    by_cases h : depth t ≤ sdep (cons w2 t2 r)
    · refine ⟨p, List.mem_cons_of_mem _ hp, ?_⟩
      show depth p.2 = max (depth t) (sdep (cons w2 t2 r))
      omega
    · refine ⟨(w, t), List.mem_cons_self, ?_⟩
      show depth t = max (depth t) (sdep (cons w2 t2 r))
      omega
theorem depth_lt {t : Tr} {p : Str × Tr} (h : p ∈ t.fields) : depth p.2 < depth t := by
  have h1 := sdep_mem h
  have h2 : t.isNil = false := by
    cases t with
    | nil => cases h
    | cons _ _ _ => rfl
  unfold depth
  rw [h2]
  show depth p.2 < 1 + sdep t
  omega
/-- how many fields in all; words of at most eight signs -/
def size : Tr → Nat
  | nil => 0
  | cons _ t r => 1 + size t + size r
def short : Tr → Prop
  | nil => True
  | cons w t r => w.length ≤ 8 ∧ short t ∧ short r
theorem fields_len : ∀ t : Tr, t.fields.length ≤ t.size
  | nil => Nat.le_refl _
  | cons w t r => by
    have := fields_len r
    show r.fields.length + 1 ≤ 1 + t.size + r.size
    omega
theorem size_mem : ∀ {t : Tr} {p : Str × Tr}, p ∈ t.fields → p.2.size < t.size
  | nil, p, h => by cases h
  | cons w t r, p, h => by
    show p.2.size < 1 + t.size + r.size
    rcases List.mem_cons.mp h with rfl | h
    · show t.size < _
      omega
    · have := size_mem h
      omega
theorem short_mem : ∀ {t : Tr} {p : Str × Tr}, t.short → p ∈ t.fields → p.1.length ≤ 8 ∧ p.2.short
  | nil, p, _, h => by cases h
  | cons w t r, p, hs, h => by
    rcases List.mem_cons.mp h with rfl | h
    · exact ⟨hs.1, hs.2.1⟩
    · exact short_mem hs.2.2 h
theorem join_len (sep : Str) : ∀ ws : List Str, (Str.join sep ws).length ≤ (ws.map (·.length)).sum + ws.length * sep.length
  | [] => Nat.zero_le _
  | [x] => by
    show x.length ≤ _
    simp only [List.map_cons, List.map_nil, List.sum_cons, List.sum_nil]
    omega
  | x :: y :: r => by
    have ih := join_len sep (y :: r)
    show (x ++ sep ++ Str.join sep (y :: r)).length ≤ _
    rw [len_app, len_app, List.map_cons, List.sum_cons, List.length_cons, Nat.succ_mul]
    omega
theorem join_le : ∀ {t : Tr}, t.short → ((pieces t).map (·.length)).sum + (pieces t).length * 2 ≤ 14 * t.size ∧ (text t).length ≤ 2 + 14 * t.size
  | nil, _ => ⟨Nat.le_refl _, by decide +kernel⟩
  | cons w t r, h => by
    obtain ⟨h1, h2, h3⟩ := h
    obtain ⟨_, a2⟩ := join_le h2
    obtain ⟨b1, _⟩ := join_le h3
    have e2 : ((": " : Str)).length = 2 := by decide +kernel
    have e3 : ((", " : Str)).length = 2 := by decide +kernel
    have e4 : (("{" : Str)).length = 1 := by decide +kernel
    have e5 : (("}" : Str)).length = 1 := by decide +kernel
    have k : ((pieces (cons w t r)).map (·.length)).sum + (pieces (cons w t r)).length * 2 ≤ 14 * (1 + t.size + r.size) := by
      show (((w ++ ": " ++ text t) :: pieces r).map (·.length)).sum + ((w ++ ": " ++ text t) :: pieces r).length * 2 ≤ _
      rw [List.map_cons, List.sum_cons, List.length_cons, len_app, len_app, e2]
      omega
    refine ⟨k, ?_⟩
    show ("{" ++ Str.join ", " (pieces (cons w t r)) ++ "}" : Str).length ≤ _
    have j := join_len ", " (pieces (cons w t r))
    rw [e3] at j
    rw [len_app, len_app, e4, e5]
    show _ ≤ 2 + 14 * (1 + t.size + r.size)
    omega
theorem nil_iff {t : Tr} : t.isNil = t.fields.isEmpty := by cases t <;> rfl
theorem nil_of {t : Tr} (h : t.isNil = true) : t = nil := by
  cases t with
  | nil => rfl
  | cons _ _ _ => cases h
end Tr
theorem recs_int {t : Tr} (h : t.isNil = false) : (1 : Int) + (t.fields.map fun m => ((m.2.recs : Nat) : Int)).sum = ((t.recs : Nat) : Int) := by
  have e : t.recs = 1 + (t.fields.map fun p => p.2.recs).sum := by
    rw [← Tr.srec_eq]
    show (if t.isNil then 0 else 1 + t.srec) = _
    rw [h]
    rfl
  have e2 := natSum (t.fields.map fun p => p.2.recs)
  rw [List.map_map] at e2
  have e3 : (t.fields.map ((fun (n : Nat) => ((n : Nat) : Int)) ∘ fun p => p.2.recs)).sum = (t.fields.map fun m => ((m.2.recs : Nat) : Int)).sum := rfl
  rw [e3] at e2
  rw [e, ← e2]
  omega
theorem plains_int {t : Tr} (h : t.isNil = false) : (t.fields.map fun m => ((m.2.plains : Nat) : Int)).sum = ((t.plains : Nat) : Int) := by
  have e : t.plains = (t.fields.map fun p => p.2.plains).sum := by
    rw [← Tr.spla_eq]
    show (if t.isNil then 1 else t.spla) = _
    rw [h]
    rfl
  have e2 := natSum (t.fields.map fun p => p.2.plains)
  rw [List.map_map] at e2
  rw [e, e2]
  rfl
theorem text_eq {t : Tr} (h : t.isNil = false) : t.text = "{" ++ Str.join ", " t.pieces ++ "}" := by
  show (if t.isNil then (("." : Str)) else "{" ++ Str.join ", " t.pieces ++ "}") = _
  rw [h]
  rfl
theorem depth_int {t : Tr} (h : t.isNil = false) {m : Int} (h1 : m ∈ t.fields.map fun m => ((m.2.depth : Nat) : Int)) (h2 : ∀ y ∈ t.fields.map (fun m => ((m.2.depth : Nat) : Int)), y ≤ m) : (1 : Int) + m = ((t.depth : Nat) : Int) := by
  have e : t.depth = 1 + t.sdep := by
    show (if t.isNil then 0 else 1 + t.sdep) = _
    rw [h]
    rfl
  obtain ⟨p, hp, ep⟩ := Tr.sdep_at h
  obtain ⟨q, hq, rfl⟩ := List.mem_map.mp h1
  have h3 := h2 _ (List.mem_map.mpr ⟨p, hp, rfl⟩)
  have h4 := Tr.sdep_mem hq
  rw [e]
  have h5 : ((p.2.depth : Nat) : Int) ≤ ((q.2.depth : Nat) : Int) := h3
  show (1 : Int) + ((q.2.depth : Nat) : Int) = _
  omega
/-! ### a tree as it stands -/
def FsAt (H : Hp) : Tr → List V → Prop
  | .nil, ps => ps = []
  | .cons w t r, ps => ∃ p q qs, ps = .ref p :: qs ∧ H p = some (.tup [.str w, q]) ∧ (∃ a ps', q = .ref a ∧ H a = some (.tup ps') ∧ FsAt H t ps') ∧ FsAt H r qs
def TrAt (H : Hp) (t : Tr) (v : V) : Prop := ∃ a ps, v = .ref a ∧ H a = some (.tup ps) ∧ FsAt H t ps
theorem FsAt.same {H H' : Hp} (s : Same H H') : ∀ {t : Tr} {ps : List V}, FsAt H t ps → FsAt H' t ps
  | .nil, _, h => h
  | .cons w t r, _, ⟨p, q, qs, e, h1, ⟨a, ps', e2, h2, h3⟩, h4⟩ => ⟨p, q, qs, e, s _ _ h1, ⟨a, ps', e2, s _ _ h2, FsAt.same s h3⟩, FsAt.same s h4⟩
/-- a tree stands while tuples stand -/
theorem FsAt.tups {H H' : Hp} (s : ∀ c xs, H c = some (.tup xs) → H' c = some (.tup xs)) : ∀ {t : Tr} {ps : List V}, FsAt H t ps → FsAt H' t ps
  | .nil, _, h => h
  | .cons w t r, _, ⟨p, q, qs, e, h1, ⟨a, ps', e2, h2, h3⟩, h4⟩ => ⟨p, q, qs, e, s _ _ h1, ⟨a, ps', e2, s _ _ h2, FsAt.tups s h3⟩, FsAt.tups s h4⟩
theorem TrAt.tups {H H' : Hp} (s : ∀ c xs, H c = some (.tup xs) → H' c = some (.tup xs)) {t : Tr} {v : V} (h : TrAt H t v) : TrAt H' t v := by
  obtain ⟨a, ps, e, h1, h2⟩ := h
  exact ⟨a, ps, e, s _ _ h1, h2.tups s⟩
theorem TrAt.same {H H' : Hp} (s : Same H H') {t : Tr} {v : V} (h : TrAt H t v) : TrAt H' t v := by
  obtain ⟨a, ps, e, h1, h2⟩ := h
  exact ⟨a, ps, e, s _ _ h1, h2.same s⟩
theorem FsAt.len {H : Hp} : ∀ {t : Tr} {ps : List V}, FsAt H t ps → ps.length = t.fields.length
  | .nil, _, h => by rw [show _ = [] from h]; rfl
  | .cons w t r, _, ⟨p, q, qs, e, _, _, h4⟩ => by
    rw [e, List.length_cons, FsAt.len h4]
    rfl
theorem FsAt.get {H : Hp} : ∀ {t : Tr} {ps : List V} {i : Nat} {m : Str × Tr}, FsAt H t ps → t.fields[i]? = some m → ∃ p q, ps[i]? = some (.ref p) ∧ H p = some (.tup [.str m.1, q]) ∧ TrAt H m.2 q
  | .nil, _, _, _, _, e => by cases e
  | .cons w t r, _, 0, m, ⟨p, q, qs, e, h1, h2, _⟩, em => by
    have e2 : (w, t) = m := Option.some.inj em
    subst e2 e
    exact ⟨p, q, rfl, h1, h2⟩
  | .cons w t r, _, i + 1, m, ⟨p, q, qs, e, _, _, h4⟩, em => by
    obtain ⟨p', q', g1, g2, g3⟩ := FsAt.get (i := i) (m := m) h4 em
    subst e
    exact ⟨p', q', g1, g2, g3⟩
theorem FsAt.snoc {H : Hp} : ∀ {l : List (Str × Tr)} {ps : List V} {p : Addr} {q : V} {w : Str} {t : Tr}, FsAt H (.ofFields l) ps → H p = some (.tup [.str w, q]) → TrAt H t q → FsAt H (.ofFields (l ++ [(w, t)])) (ps ++ [.ref p])
  | [], ps, p, q, w, t, h, h1, h2 => by
    rw [show ps = [] from h]
    exact ⟨p, q, [], rfl, h1, h2, rfl⟩
  | (w0, t0) :: l, _, p, q, w, t, ⟨p0, q0, qs, e, g1, g2, g3⟩, h1, h2 => by
    rw [e]
    exact ⟨p0, q0, qs ++ [.ref p], rfl, g1, g2, FsAt.snoc g3 h1 h2⟩
theorem FsAt.nil_iff {H : Hp} {t : Tr} {ps : List V} (h : FsAt H t ps) : ps.isEmpty = t.isNil := by
  cases t with
  | nil => rw [show ps = [] from h]; rfl
  | cons w t r =>
    obtain ⟨p, q, qs, e, _⟩ := h
    rw [e]; rfl
/-- a def of a tree of a depth below d: its value -/
def sp_tree (d : Nat) (val : Tr → V) : Sp := fun vs H Q _ => ∃ t v, vs = [v] ∧ TrAt H t v ∧ t.depth < d ∧ t.size ≤ 1000 ∧ t.short ∧ ∀ H', Same H H' → Q (val t) H'
theorem sp_tree.len1 {d : Nat} {val : Tr → V} {vs : List V} {H : Hp} {Q : VK} {E : XK} (h : sp_tree d val vs H Q E) : vs.length = 1 := by
  obtain ⟨t, v, rfl, _⟩ := h
  rfl
theorem no_tree {P : Program} {w : World} {K : PySem.W.Frag} {mg : Str → Option Value} {base : Heap} {f : Addr} {fd : FuncData} {x : Str} {val : Tr → V} : FnOk P w K mg base CX0 0 f fd [x] (sp_tree 0 val) :=
  ⟨fun vs H Q E h => h.len1, fun A outer s H args us vs Q E _ _ _ _ h => by
    obtain ⟨t, v, _, _, hd, _⟩ := h
    exact absurd hd (Nat.not_lt_zero _)⟩
/-! ### == with an empty tuple -/
section
variable {X : Cx}
def rEqNil (K : PySem.W.Frag) (f : Bool → Bool) : R2 := fun x y H Q => ∃ a b xs, x = .ref a ∧ y = .ref b ∧ SqT K H a xs ∧ SqT K H b [] ∧ Q (.bl (f xs.isEmpty)) H
theorem op_eq_nilK (K : PySem.W.Frag) (hu : X.A.units < cLine) (e : X.K = K := by rfl) : OpR X (compareOp .Eq) (rEqNil K fun b => b) := by
  subst e
  intro pins s σ H x y v u Q I rx ry h
  obtain ⟨a, b, xs, rfl, rfl, h1, h2, q⟩ := h
  cases rx
  cases ry
  obtain ⟨its, r, p1, _⟩ := I.tuple h1
  obtain ⟨its2, r2, p2, _⟩ := I.tuple h2
  cases r2
  refine PySem.SeqAt.eq_tupleAt (e := fun _ => true) p1 p2 hu (fun j h1 h2 => absurd h2 (by simp)) ?_
  have e : ((List.range (min its.toArray.size ([] : List Value).toArray.size)).all (fun _ => true) && its.toArray.size == ([] : List Value).toArray.size) = xs.isEmpty := by
    have hl := r.length
    cases xs with
    | nil => cases r; rfl
    | cons x xs => cases r; simp
  rw [e]
  exact ⟨.bl xs.isEmpty, H, I, rfl, q⟩
theorem pg_tupK (K : PySem.W.Frag) {es : List Expr} {k : Nat} {t : TGs} {n : Nat} {pos : Pos} (hc : X.calm = true) (h : PGs X es t) (hn : (assignEach es X.env).length = n := by rfl) (hst : (assignEach es X.env).findIdx? (·.1) = none := by rfl) (e : X.K = K := by rfl) : PG X (.Tuple es k pos) (gTup K n t) := by
  subst e
  exact pg_tup hc h hn hst
end
end Ub

namespace Ub
open PySem PySem.Spec PyProof.Rows L2
open Builtin Builtin.Str PySem.StrLaws
/-! ### the first place of a text -/
theorem occ_kept (s sub : Str) (hi : Nat) : ∀ (l : List Nat) (st : Array Nat × Nat), 1 ≤ st.fst.size → (forIn l st (occBody s sub hi 1)).run.fst = st.fst
  | [], st, _ => rfl
  | a :: l, st, h => by
    rw [List.forIn_cons]
    unfold occBody
    rw [if_neg (fun z => by have := z.1.1.1; omega)]
    exact occ_kept s sub hi l _ h
theorem occ_find (s sub : Str) (hi : Nat) : ∀ (l : List Nat) (free : Nat), (∀ i ∈ l, free ≤ i) →
    (forIn l ((#[] : Array Nat), free) (occBody s sub hi 1)).run.fst.toList = (l.find? fun i => decide (i + sub.length ≤ hi) && subAt s sub i).toList
  | [], free, _ => rfl
  | a :: l, free, hf => by
    rw [List.forIn_cons, List.find?_cons]
    unfold occBody
    have ha : free ≤ a := hf a List.mem_cons_self
    by_cases hc : a + sub.length ≤ hi ∧ subAt s sub a = true
    · rw [if_pos ⟨⟨⟨by simp, ha⟩, hc.1⟩, hc.2⟩]
      have e : (decide (a + sub.length ≤ hi) && subAt s sub a) = true := by simp [hc.1, hc.2]
      rw [e]
      show ((forIn l ((#[] : Array Nat).push a, a + sub.length) (occBody s sub hi 1)).run.fst).toList = [a]
      rw [occ_kept s sub hi l _ (by simp)]
      simp
    · rw [if_neg fun h => hc ⟨h.1.2, h.2⟩]
      have e : (decide (a + sub.length ≤ hi) && subAt s sub a) = false := by
        cases h : (decide (a + sub.length ≤ hi) && subAt s sub a) with
        | false => rfl
        | true =>
          simp only [Bool.and_eq_true, decide_eq_true_eq] at h
          exact absurd h hc
      rw [e]
      exact occ_find s sub hi l free fun i hi' => hf i (List.mem_cons_of_mem _ hi')
theorem occ1 (s sub : Str) (lo hi : Nat) : occurrences s sub lo hi 1 = ((List.range' lo (hi + 1 - lo)).find? fun i => decide (i + sub.length ≤ hi) && subAt s sub i).toList := by
  rw [occ_eq, occ_find s sub hi _ lo fun i hi' => by have := List.mem_range'.mp hi'; omega]
theorem find_range' (p : Nat → Bool) : ∀ (n lo : Nat), (∃ i, lo ≤ i ∧ i < lo + n ∧ p i = true ∧ (∀ j, lo ≤ j → j < i → p j = false) ∧ (List.range' lo n).find? p = some i) ∨ ((∀ j, lo ≤ j → j < lo + n → p j = false) ∧ (List.range' lo n).find? p = none)
  | 0, lo => .inr ⟨fun j h1 h2 => absurd h2 (by omega), rfl⟩
  | n + 1, lo => by
    rw [List.range'_succ, List.find?_cons]
    cases hp : p lo with
    | true => exact .inl ⟨lo, Nat.le_refl _, by omega, hp, fun j h1 h2 => absurd h2 (by omega), rfl⟩
    | false =>
      rcases find_range' p n (lo + 1) with ⟨i, h1, h2, h3, h4, h5⟩ | ⟨h1, h2⟩
      · refine .inl ⟨i, by omega, by omega, h3, fun j g1 g2 => ?_, h5⟩
        by_cases e : j = lo
        · rw [e]; exact hp
        · exact h4 j (by omega) g2
      · refine .inr ⟨fun j g1 g2 => ?_, h2⟩
        by_cases e : j = lo
        · rw [e]; exact hp
        · exact h1 j (by omega) (by omega)
/-- the codes -/
abbrev cs (z : Str) : List Nat := z.cps.toList
theorem str_of (z : Str) : (⟨(cs z).toArray⟩ : Str) = z := by cases z; simp [cs]
theorem str_inj {a b : Str} (h : cs a = cs b) : a = b := by rw [← str_of a, ← str_of b, h]
theorem cs_of (l : List Nat) : cs (⟨l.toArray⟩ : Str) = l := by simp [cs]
theorem cs_len (z : Str) : (cs z).length = z.length := len_toList z
theorem colon_cs : cs (": " : Str) = [58, 32] := by decide +kernel
theorem colon_len : ((": " : Str)).length = 2 := by decide +kernel
theorem sub_colon (z : Str) (i : Nat) : subAt z ": " i = true ↔ ((cs z).drop i).take 2 = [58, 32] := by
  rw [subAt_eq]
  show (((cs z).drop i).take ((": " : Str)).length == cs (": " : Str)) = true ↔ _
  rw [colon_len, colon_cs]
  exact beq_iff_eq
theorem take2_len {l : List Nat} {i a b : Nat} (h : (l.drop i).take 2 = [a, b]) : i + 2 ≤ l.length := by
  have := congrArg List.length h
  rw [List.length_take, List.length_drop] at this
  have e : ([a, b] : List Nat).length = 2 := rfl
  rw [e] at this
  omega
theorem find_colon (z : Str) (a : Nat) (ha : a ≤ z.length) :
    (∃ e, Txt.findIn z ": " (a : Nat) ((a : Nat) + 10) = ((a + e : Nat) : Int) ∧ e ≤ 8 ∧ (((cs z).drop a).drop e).take 2 = [58, 32] ∧ ∀ i, i < e → (((cs z).drop a).drop i).take 2 ≠ [58, 32]) ∨
    (Txt.findIn z ": " (a : Nat) ((a : Nat) + 10) = -1 ∧ ∀ e, e ≤ 8 → (((cs z).drop a).drop e).take 2 ≠ [58, 32]) := by
  have e1 : fromIndex z.length ((a : Nat) : Int) = a := by
    unfold fromIndex
    rw [if_neg (by omega)]
    omega
  have e2 : toIndexW z.length (((a : Nat) : Int) + 10) = min (a + 10) z.length := by
    unfold toIndexW
    rw [if_neg (by omega)]
    omega
  have key : ∀ j, (decide (j + ((": " : Str)).length ≤ min (a + 10) z.length) && subAt z ": " j) = true ↔ j ≤ a + 8 ∧ ((cs z).drop j).take 2 = [58, 32] := fun j => by
    rw [Bool.and_eq_true, decide_eq_true_eq, sub_colon, colon_len]
    constructor
    · rintro ⟨h1, h2⟩
      exact ⟨by omega, h2⟩
    · rintro ⟨h1, h2⟩
      have := take2_len h2
      rw [cs_len] at this
      exact ⟨by omega, h2⟩
  unfold Txt.findIn
  rw [e1, e2, occ1]
  rcases find_range' (fun i => decide (i + ((": " : Str)).length ≤ min (a + 10) z.length) && subAt z ": " i) (min (a + 10) z.length + 1 - a) a with ⟨i, h1, h2, h3, h4, h5⟩ | ⟨h1, h2⟩
  · rw [h5]
    obtain ⟨g1, g2⟩ := (key i).mp h3
    refine .inl ⟨i - a, ?_, by omega, ?_, fun j hj hq => ?_⟩
    · show ((i : Nat) : Int) = _
      omega
    · rw [List.drop_drop, show a + (i - a) = i by omega]
      exact g2
    · rw [List.drop_drop] at hq
      have := (key (a + j)).mpr ⟨by omega, hq⟩
      have h6 := h4 (a + j) (by omega) (by omega)
      rw [this] at h6
      cases h6
  · rw [h2]
    refine .inr ⟨rfl, fun e he hq => ?_⟩
    rw [List.drop_drop] at hq
    have h3 := take2_len hq
    rw [cs_len] at h3
    have := (key (a + e)).mpr ⟨by omega, hq⟩
    have h6 := h1 (a + e) (by omega) (by omega)
    rw [this] at h6
    cases h6
theorem cut_nat {z : Str} {a b : Nat} (ha : a ≤ z.length) (hb : a ≤ b) : cutS z (some (a : Int)) (some (b : Int)) = ⟨(((cs z).drop a).take (b - a)).toArray⟩ := by
  unfold cutS
  rw [HT.sIx_nat, HT.sIx_nat, show min a z.length = a by omega]
  congr 1
  congr 1
  by_cases h : b ≤ z.length
  · rw [show min b z.length = b by omega]
  · rw [show min b z.length = z.length by omega, List.take_of_length_le (by rw [List.length_drop, cs_len]; omega), List.take_of_length_le (by rw [List.length_drop, cs_len]; omega)]
/-! ### the word at the head of signs -/
def scanW (s : List Nat) : Option Str := if isWord ⟨(s.takeWhile isLet).toArray⟩ = true ∧ (s.drop (s.takeWhile isLet).length).take 2 = [58, 32] then some ⟨(s.takeWhile isLet).toArray⟩ else none
theorem let_colon : isLet 58 = false := by decide +kernel
theorem takeWhile_split : ∀ (s : List Nat) (e : Nat), (∀ c ∈ s.take e, isLet c = true) → (∃ r, s.drop e = 58 :: r) → s.takeWhile isLet = s.take e
  | s, 0, _, ⟨r, h⟩ => by
    have h : s = 58 :: r := h
    rw [h, List.takeWhile_cons, let_colon]
    rfl
  | [], e + 1, _, ⟨r, h⟩ => by cases h
  | c :: s, e + 1, hl, ⟨r, h⟩ => by
    have hc : isLet c = true := hl c (by simp)
    rw [List.takeWhile_cons, hc, List.take_succ_cons]
    have := takeWhile_split s e (fun d hd => hl d (by simp [hd])) ⟨r, h⟩
    simp [this]
theorem take2_head {l : List Nat} {a b : Nat} (h : l.take 2 = [a, b]) : ∃ r, l = a :: b :: r := by
  cases l with
  | nil => cases h
  | cons x l =>
    cases l with
    | nil => cases h
    | cons y l =>
      have h1 : [x, y] = [a, b] := h
      injection h1 with h2 h3
      injection h3 with h4
      exact ⟨l, by rw [h2, h4]⟩
theorem isWord_low {z : Str} (h : isWord z = true) : ∀ c ∈ cs z, isLet c = true := (isWord_iff.mp h).2.2.1
/-- the program's reading: found at e -/
theorem scanW_found {s : List Nat} {e : Nat} (h1 : (s.drop e).take 2 = [58, 32]) (h2 : ∀ i, i < e → (s.drop i).take 2 ≠ [58, 32]) (h8 : e ≤ 8) : scanW s = if isWord ⟨(s.take e).toArray⟩ = true then some ⟨(s.take e).toArray⟩ else none := by
  obtain ⟨r, hr⟩ := take2_head h1
  by_cases hw : isWord ⟨(s.take e).toArray⟩ = true
  · have hl := isWord_low hw
    rw [cs_of] at hl
    have et := takeWhile_split s e hl ⟨_, hr⟩
    have le : (s.take e).length = e := by
      rw [List.length_take]
      have := take2_len h1
      omega
    unfold scanW
    rw [et, le, if_pos ⟨hw, h1⟩, if_pos hw]
  · rw [if_neg hw]
    unfold scanW
    refine if_neg fun h => ?_
    obtain ⟨g1, g2⟩ := h
    have hlen := isWord_len g1
    have el : ((⟨(s.takeWhile isLet).toArray⟩ : Str)).length = (s.takeWhile isLet).length := by simp [Str.length]
    rw [el] at hlen
    -- the first place is that one
    have hle : (s.takeWhile isLet).length = e := by
      by_cases hlt : (s.takeWhile isLet).length < e
      · exact absurd g2 (h2 _ hlt)
      · by_cases hgt : e < (s.takeWhile isLet).length
        · have hin : s[e]? = some 58 := by
            have : (s.drop e)[0]? = some 58 := by rw [hr]; rfl
            rw [List.getElem?_drop] at this
            exact this
          have hpre : s.takeWhile isLet <+: s := List.takeWhile_prefix _
          obtain ⟨t, ht⟩ := hpre
          have : (s.takeWhile isLet)[e]? = some 58 := by
            rw [← ht, List.getElem?_append_left hgt] at hin
            exact hin
          have hm := List.mem_of_getElem? this
          have : isLet 58 = true := by
            have := List.all_takeWhile (p := isLet) (l := s)
            exact List.all_eq_true.mp this _ hm
          rw [let_colon] at this
          cases this
        · omega
    have hpre : s.takeWhile isLet = s.take e := by
      have hp : s.takeWhile isLet <+: s := List.takeWhile_prefix _
      have := List.prefix_iff_eq_take.mp hp
      rw [hle] at this
      exact this
    rw [hpre] at g1
    exact hw g1
theorem scanW_none {s : List Nat} (h : ∀ e, e ≤ 8 → (s.drop e).take 2 ≠ [58, 32]) : scanW s = none := by
  unfold scanW
  refine if_neg fun g => ?_
  have hlen := isWord_len g.1
  have el : ((⟨(s.takeWhile isLet).toArray⟩ : Str)).length = (s.takeWhile isLet).length := by simp [Str.length]
  rw [el] at hlen
  exact h _ hlen.2 g.2
theorem scanW_some {s : List Nat} {w : Str} (h : scanW s = some w) : isWord w = true ∧ ∃ r, s = cs w ++ 58 :: 32 :: r := by
  unfold scanW at h
  by_cases hc : isWord ⟨(s.takeWhile isLet).toArray⟩ = true ∧ (s.drop (s.takeWhile isLet).length).take 2 = [58, 32]
  · rw [if_pos hc] at h
    have e := Option.some.inj h
    subst e
    refine ⟨hc.1, ?_⟩
    obtain ⟨r, hr⟩ := take2_head hc.2
    refine ⟨r, ?_⟩
    rw [cs_of, ← hr]
    have hp : s.takeWhile isLet <+: s := List.takeWhile_prefix _
    have := List.prefix_iff_eq_take.mp hp
    conv => lhs; rw [← List.take_append_drop (s.takeWhile isLet).length s]
    rw [← this]
  · rw [if_neg hc] at h
    cases h
/-! ### shapes at the head of signs -/
/-- n fields more, none of the known words; below them: scan -/
def scanF (scan : List Nat → Option (Tr × List Nat)) : Nat → List Str → List Nat → Option (Tr × List Nat)
  | 0, _, _ => none
  | n + 1, known, s => match scanW s with
    | none => none
    | some w => if w ∈ known then none else match scan (s.drop (w.length + 2)) with
      | none => none
      | some (t, r) => match r with
        | 125 :: r' => some (.cons w t .nil, r')
        | 44 :: 32 :: r' => (scanF scan n (known ++ [w]) r').map fun p => (.cons w t p.1, p.2)
        | _ => none
def scanS : Nat → List Nat → Option (Tr × List Nat)
  | floors, s => match s with
    | 46 :: r => some (.nil, r)
    | 123 :: r => (match floors with
      | 0 => none
      | f + 1 => scanF (scanS f) 3 [] r)
    | _ => none
end Ub

namespace Ub
open PySem PySem.Spec PyProof.Rows L2
/-! ### which trees are shapes -/
def FineF (fine : Tr → Prop) : Nat → List Str → Tr → Prop
  | 0, _, _ => False
  | _ + 1, _, .nil => False
  | n + 1, known, .cons w t r => isWord w = true ∧ w ∉ known ∧ fine t ∧ (r = .nil ∨ FineF fine n (known ++ [w]) r)
def Fine : Nat → Tr → Prop
  | 0, t => t = .nil
  | f + 1, t => t = .nil ∨ FineF (Fine f) 3 [] t
/-! ### the codes of a tree's text -/
def fcs : Tr → List Nat
  | .nil => []
  | .cons w t r => cs w ++ 58 :: 32 :: ((if t.isNil then [46] else 123 :: (fcs t ++ [125])) ++ (if r.isNil then [] else 44 :: 32 :: fcs r))
def tcs (t : Tr) : List Nat := if t.isNil then [46] else 123 :: (fcs t ++ [125])
theorem cs_app (a b : Str) : cs (a ++ b) = cs a ++ cs b := app_cps a b
theorem cs_dot : cs (("." : Str)) = [46] := by decide +kernel
theorem cs_open : cs (("{" : Str)) = [123] := by decide +kernel
theorem cs_shut : cs (("}" : Str)) = [125] := by decide +kernel
theorem cs_comma : cs ((", " : Str)) = [44, 32] := by decide +kernel
theorem join_fcs : ∀ t : Tr, cs (Str.join ", " t.pieces) = fcs t ∧ cs t.text = tcs t
  | .nil => ⟨rfl, cs_dot⟩
  | .cons w t r => by
    obtain ⟨_, a2⟩ := join_fcs t
    obtain ⟨b1, _⟩ := join_fcs r
    have k : cs (Str.join ", " (Tr.cons w t r).pieces) = fcs (.cons w t r) := by
      cases r with
      | nil =>
        show cs (w ++ ": " ++ t.text) = _
        rw [cs_app, cs_app, a2, colon_cs]
        show _ = cs w ++ 58 :: 32 :: (tcs t ++ [])
        simp
      | cons w2 t2 r2 =>
        show cs ((w ++ ": " ++ t.text) ++ ", " ++ Str.join ", " (Tr.cons w2 t2 r2).pieces) = _
        rw [cs_app, cs_app, cs_app, cs_app, a2, b1, colon_cs, cs_comma]
        show _ = cs w ++ 58 :: 32 :: (tcs t ++ 44 :: 32 :: fcs (.cons w2 t2 r2))
        simp
    refine ⟨k, ?_⟩
    show cs ("{" ++ Str.join ", " (Tr.cons w t r).pieces ++ "}" : Str) = 123 :: (fcs (.cons w t r) ++ [125])
    rw [cs_app, cs_app, k, cs_open, cs_shut]
    rfl
theorem cs_text (t : Tr) : cs t.text = tcs t := (join_fcs t).2
theorem fcs_cons (w : Str) (t r : Tr) : fcs (.cons w t r) = cs w ++ 58 :: 32 :: (tcs t ++ (if r.isNil then [] else 44 :: 32 :: fcs r)) := rfl
/-! ### what is read is written so -/
theorem scanW_of {w : Str} (h : isWord w = true) (r : List Nat) : scanW (cs w ++ 58 :: 32 :: r) = some w := by
  have hl := isWord_low h
  have e : (cs w ++ 58 :: 32 :: r).takeWhile isLet = cs w := by
    have := takeWhile_split (cs w ++ 58 :: 32 :: r) (cs w).length (by rw [List.take_left]; exact hl) ⟨32 :: r, by rw [List.drop_left]⟩
    rw [this, List.take_left]
  unfold scanW
  rw [e, List.drop_left, str_of, if_pos ⟨h, rfl⟩]
theorem scanF_out {scan : List Nat → Option (Tr × List Nat)} {fine : Tr → Prop} (hs : ∀ s t r, scan s = some (t, r) → fine t ∧ s = tcs t ++ r) :
    ∀ (n : Nat) (known : List Str) (s : List Nat) (u : Tr) (r : List Nat), scanF scan n known s = some (u, r) → FineF fine n known u ∧ s = fcs u ++ 125 :: r
  | 0, _, _, _, _, h => by cases h
  | n + 1, known, s, u, r, h => by
    unfold scanF at h
    cases hw : scanW s with
    | none => rw [hw] at h; cases h
    | some w =>
      rw [hw] at h
      obtain ⟨g1, r0, g2⟩ := scanW_some hw
      dsimp only at h
      by_cases hk : w ∈ known
      · rw [if_pos hk] at h; cases h
      · rw [if_neg hk] at h
        have ed : s.drop (w.length + 2) = r0 := by
          rw [g2, ← cs_len, ← List.drop_drop, List.drop_left]
          rfl
        rw [ed] at h
        cases hsc : scan r0 with
        | none => rw [hsc] at h; cases h
        | some p =>
          obtain ⟨t, r1⟩ := p
          rw [hsc] at h
          dsimp only at h
          obtain ⟨k1, k2⟩ := hs _ _ _ hsc
          split at h
          · rename_i r' 
            have e := Option.some.inj h
            injection e with e1 e2
            subst e1 e2
            refine ⟨⟨g1, hk, k1, .inl rfl⟩, ?_⟩
            rw [fcs_cons, g2, k2]
            simp [Tr.isNil]
          · rename_i r'
            cases hf : scanF scan n (known ++ [w]) r' with
            | none => rw [hf] at h; cases h
            | some q =>
              obtain ⟨u', r''⟩ := q
              rw [hf] at h
              have e := Option.some.inj h
              injection e with e1 e2
              have e1 : Tr.cons w t u' = u := e1
              have e2 : r'' = r := e2
              subst e1 e2
              obtain ⟨i1, i2⟩ := scanF_out hs n _ _ _ _ hf
              refine ⟨⟨g1, hk, k1, .inr i1⟩, ?_⟩
              have hn : u'.isNil = false := by
                cases u' with
                | nil => cases n <;> exact i1.elim
                | cons _ _ _ => rfl
              rw [fcs_cons, g2, k2, hn, i2]
              simp
          · cases h
theorem scanF_in {scan : List Nat → Option (Tr × List Nat)} {fine : Tr → Prop} (hs : ∀ t r, fine t → scan (tcs t ++ r) = some (t, r)) :
    ∀ (n : Nat) (known : List Str) (u : Tr) (r : List Nat), FineF fine n known u → scanF scan n known (fcs u ++ 125 :: r) = some (u, r)
  | 0, _, _, _, h => h.elim
  | n + 1, _, .nil, _, h => h.elim
  | n + 1, known, .cons w t u', r, h => by
    obtain ⟨g1, hk, k1, hr⟩ := h
    have es : fcs (.cons w t u') ++ 125 :: r = cs w ++ 58 :: 32 :: (tcs t ++ ((if u'.isNil then [] else 44 :: 32 :: fcs u') ++ 125 :: r)) := by
      rw [fcs_cons]
      simp
    rw [es]
    unfold scanF
    rw [scanW_of g1]
    dsimp only
    rw [if_neg hk]
    have ed : (cs w ++ 58 :: 32 :: (tcs t ++ ((if u'.isNil then [] else 44 :: 32 :: fcs u') ++ 125 :: r))).drop (w.length + 2) = tcs t ++ ((if u'.isNil then [] else 44 :: 32 :: fcs u') ++ 125 :: r) := by
      rw [← cs_len, ← List.drop_drop, List.drop_left]
      rfl
    rw [ed, hs _ _ k1]
    dsimp only
    cases u' with
    | nil => rfl
    | cons w2 t2 r2 =>
      rcases hr with hr | hr
      · cases hr
      · have ih := scanF_in hs n _ _ r hr
        show (scanF scan n (known ++ [w]) (fcs (.cons w2 t2 r2) ++ 125 :: r)).map _ = _
        rw [ih]
        rfl
theorem scanS_out : ∀ (f : Nat) (s : List Nat) (t : Tr) (r : List Nat), scanS f s = some (t, r) → Fine f t ∧ s = tcs t ++ r := by
  intro f
  induction f with
  | zero =>
    intro s t r h
    unfold scanS at h
    split at h
    · have e := Option.some.inj h
      injection e with e1 e2
      subst e1 e2
      exact ⟨rfl, rfl⟩
    · cases h
    · cases h
  | succ f ih =>
    intro s t r h
    unfold scanS at h
    split at h
    · have e := Option.some.inj h
      injection e with e1 e2
      subst e1 e2
      exact ⟨.inl rfl, rfl⟩
    · rename_i r0
      obtain ⟨g1, g2⟩ := scanF_out ih 3 [] _ _ _ h
      have hn : t.isNil = false := by
        cases t with
        | nil => exact g1.elim
        | cons _ _ _ => rfl
      refine ⟨.inr g1, ?_⟩
      unfold tcs
      rw [hn, g2]
      simp
    · cases h
theorem scanS_in : ∀ (f : Nat) (t : Tr) (r : List Nat), Fine f t → scanS f (tcs t ++ r) = some (t, r) := by
  intro f
  induction f with
  | zero =>
    intro t r h
    have h : t = .nil := h
    subst h
    rfl
  | succ f ih =>
    intro t r h
    rcases h with h | h
    · subst h
      rfl
    · have hn : t.isNil = false := by
        cases t with
        | nil => exact h.elim
        | cons _ _ _ => rfl
      unfold tcs
      rw [hn]
      show scanS (f + 1) ((123 :: (fcs t ++ [125])) ++ r) = _
      have e : (123 :: (fcs t ++ [125])) ++ r = 123 :: (fcs t ++ 125 :: r) := by simp
      rw [e]
      show scanF (scanS f) 3 [] (fcs t ++ 125 :: r) = _
      exact scanF_in ih 3 [] t r h
/-! ### what such a tree has -/
theorem fineF_has {fine : Tr → Prop} {D B : Nat} (hf : ∀ t, fine t → t.depth ≤ D ∧ t.size ≤ B ∧ t.short) : ∀ (n : Nat) (known : List Str) (u : Tr), FineF fine n known u → u.sdep ≤ D ∧ u.size ≤ n * (1 + B) ∧ u.short
  | 0, _, _, h => h.elim
  | n + 1, _, .nil, h => h.elim
  | n + 1, known, .cons w t r, h => by
    obtain ⟨g1, _, k1, hr⟩ := h
    obtain ⟨a1, a2, a3⟩ := hf t k1
    have w8 := (isWord_len g1).2
    have e : (n + 1) * (1 + B) = n * (1 + B) + (1 + B) := Nat.succ_mul _ _
    rcases hr with hr | hr
    · subst hr
      refine ⟨?_, ?_, w8, a3, trivial⟩
      · show max t.depth 0 ≤ D
        omega
      · show 1 + t.size + 0 ≤ _
        omega
    · obtain ⟨b1, b2, b3⟩ := fineF_has hf n _ _ hr
      refine ⟨?_, ?_, w8, a3, b3⟩
      · show max t.depth r.sdep ≤ D
        omega
      · show 1 + t.size + r.size ≤ _
        omega
def bnd : Nat → Nat
  | 0 => 0
  | f + 1 => 3 * (1 + bnd f)
theorem fine_has : ∀ (f : Nat) (t : Tr), Fine f t → t.depth ≤ f ∧ t.size ≤ bnd f ∧ t.short
  | 0, t, h => by
    have h : t = .nil := h
    subst h
    exact ⟨Nat.le_refl _, Nat.le_refl _, trivial⟩
  | f + 1, t, h => by
    rcases h with h | h
    · subst h
      exact ⟨Nat.zero_le _, Nat.zero_le _, trivial⟩
    · obtain ⟨a1, a2, a3⟩ := fineF_has (fine_has f) 3 [] t h
      refine ⟨?_, a2, a3⟩
      show (if t.isNil then 0 else 1 + t.sdep) ≤ f + 1
      split <;> omega
theorem bnd3 {f : Nat} (h : f ≤ 3) : bnd f ≤ 39 := by
  match f, h with
  | 0, _ => decide
  | 1, _ => decide
  | 2, _ => decide
  | 3, _ => decide
end Ub
namespace Ub
open PySem PySem.Spec PyProof.Rows L2
/-! ### promises -/
def sp_scan_word : Sp := fun vs H Q _ => ∃ (z : Str) (a : Nat), vs = [.str z, .int a] ∧ z.length ≤ 100000 ∧ a ≤ z.length ∧ ∀ H', Same H H' → Q (match scanW ((cs z).drop a) with | none => .non | some w => .str w) H'
/-- a pair (tree, place), or (None, place) -/
def ScanOut (H' : Hp) (z : Str) (a : Int) (o : Option (Tr × List Nat)) (p : Addr) : Prop := match o with
  | none => H' p = some (.tup [.non, .int a])
  | some (t, r) => ∃ q, TrAt H' t q ∧ H' p = some (.tup [q, .int ((z.length - r.length : Nat) : Int)])
def sp_scan (d : Nat) : Sp := fun vs H Q _ => ∃ (z : Str) (a f : Nat), vs = [.str z, .int a, .int f] ∧ z.length ≤ 100000 ∧ a ≤ z.length ∧ f < d ∧ f ≤ 3 ∧ ∀ H' p, Same H H' → ScanOut H' z a (scanS f ((cs z).drop a)) p → Q (.ref p) H'
end Ub
namespace Ub
open PySem PySem.Spec PyProof.Rows L2
def prep : List (Str × Tr) → Tr → Tr
  | [], u => u
  | (w, t) :: l, u => .cons w t (prep l u)
theorem prep_snoc : ∀ (l : List (Str × Tr)) (w : Str) (t u : Tr), prep (l ++ [(w, t)]) u = prep l (.cons w t u)
  | [], _, _, _ => rfl
  | (w0, t0) :: l, w, t, u => by
    show Tr.cons w0 t0 (prep (l ++ [(w, t)]) u) = .cons w0 t0 (prep l (.cons w t u))
    rw [prep_snoc l]
theorem prep_nil : ∀ l : List (Str × Tr), prep l .nil = .ofFields l
  | [] => rfl
  | (w, t) :: l => by
    show Tr.cons w t (prep l .nil) = .cons w t (.ofFields l)
    rw [prep_nil l]
theorem no_scan {P : Program} {w : World} {K : PySem.W.Frag} {mg : Str → Option Value} {base : Heap} {f : Addr} {fd : FuncData} {x y z : Str} : FnOk P w K mg base CX0 0 f fd [x, y, z] (sp_scan 0) :=
  ⟨fun vs H Q E h => by
    obtain ⟨_, _, _, rfl, _⟩ := h
    rfl, fun A outer s H args us vs Q E _ _ _ _ h => by
    obtain ⟨_, _, f, _, _, _, hd, _⟩ := h
    exact absurd hd (Nat.not_lt_zero _)⟩
theorem scanS_dot {f : Nat} {s : List Nat} (h : s.take 1 = [46]) : ∃ r, s = 46 :: r ∧ scanS f s = some (.nil, r) := by
  cases s with
  | nil => cases h
  | cons c r =>
    have h1 : [c] = [46] := h
    injection h1 with h2
    subst h2
    refine ⟨r, rfl, ?_⟩
    unfold scanS
    rfl
theorem scanS_none {f : Nat} {s : List Nat} (h1 : s.take 1 ≠ [46]) (h2 : s.take 1 ≠ [123] ∨ f = 0) : scanS f s = none := by
  unfold scanS
  split
  · exact absurd rfl h1
  · rcases h2 with h2 | h2
    · exact absurd rfl h2
    · subst h2
      rfl
  · rfl
theorem scanS_rec {f : Nat} {s : List Nat} (h : s.take 1 = [123]) : ∃ r, s = 123 :: r ∧ scanS (f + 1) s = scanF (scanS f) 3 [] r := by
  cases s with
  | nil => cases h
  | cons c r =>
    have h1 : [c] = [123] := h
    injection h1 with h2
    subst h2
    refine ⟨r, rfl, ?_⟩
    conv => lhs; unfold scanS
    rfl
theorem cut1_eq {z x : Str} {a : Nat} {c : Nat} (ha : a ≤ z.length) (hx : cs x = [c]) : decide (V.str (cutS z (some (a : Int)) (some ((a : Int) + 1))) = V.str x) = decide (((cs z).drop a).take 1 = [c]) := by
  have e : ((a : Nat) : Int) + 1 = ((a + 1 : Nat) : Int) := by omega
  rw [e, cut_nat ha (by omega), show a + 1 - a = 1 by omega]
  by_cases h : ((cs z).drop a).take 1 = [c]
  · rw [h, decide_eq_true rfl]
    refine decide_eq_true ?_
    rw [show x = (⟨([c] : List Nat).toArray⟩ : Str) from str_inj (by rw [hx, cs_of])]
  · rw [decide_eq_false h]
    refine decide_eq_false fun q => h ?_
    have := congrArg cs (V.str.inj q)
    rw [cs_of, hx] at this
    exact this
theorem cut2_eq {z x : Str} {a : Nat} {c d : Nat} (ha : a ≤ z.length) (hx : cs x = [c, d]) : decide (V.str (cutS z (some (a : Int)) (some ((a : Int) + 2))) = V.str x) = decide (((cs z).drop a).take 2 = [c, d]) := by
  have e : ((a : Nat) : Int) + 2 = ((a + 2 : Nat) : Int) := by omega
  rw [e, cut_nat ha (by omega), show a + 2 - a = 2 by omega]
  by_cases h : ((cs z).drop a).take 2 = [c, d]
  · rw [h, decide_eq_true rfl]
    refine decide_eq_true ?_
    rw [show x = (⟨([c, d] : List Nat).toArray⟩ : Str) from str_inj (by rw [hx, cs_of])]
  · rw [decide_eq_false h]
    refine decide_eq_false fun q => h ?_
    have := congrArg cs (V.str.inj q)
    rw [cs_of, hx] at this
    exact this
def nextF (scan : List Nat → Option (Tr × List Nat)) (n : Nat) (known : List Str) (w : Str) (t : Tr) (r : List Nat) : Option (Tr × List Nat) := match r with
  | 125 :: r' => some (.cons w t .nil, r')
  | 44 :: 32 :: r' => (scanF scan n (known ++ [w]) r').map fun p => (.cons w t p.1, p.2)
  | _ => none
/-- one more field -/
theorem scanF_step {scan : List Nat → Option (Tr × List Nat)} {n : Nat} {known : List Str} {s : List Nat} {w : Str} (hw : scanW s = some w) (hk : w ∉ known) {t : Tr} {r : List Nat} (hs : scan (s.drop (w.length + 2)) = some (t, r)) :
    scanF scan (n + 1) known s = nextF scan n known w t r := by
  conv => lhs; unfold scanF
  rw [hw]
  dsimp only
  rw [if_neg hk, hs]
  rfl
theorem scanF_none1 {scan : List Nat → Option (Tr × List Nat)} {n : Nat} {known : List Str} {s : List Nat} (hw : scanW s = none) : scanF scan n known s = none := by
  cases n with
  | zero => rfl
  | succ n => unfold scanF; rw [hw]
theorem scanF_none2 {scan : List Nat → Option (Tr × List Nat)} {n : Nat} {known : List Str} {s : List Nat} {w : Str} (hw : scanW s = some w) (hk : w ∈ known) : scanF scan n known s = none := by
  cases n with
  | zero => rfl
  | succ n => unfold scanF; rw [hw]; dsimp only; rw [if_pos hk]
theorem scanF_none3 {scan : List Nat → Option (Tr × List Nat)} {n : Nat} {known : List Str} {s : List Nat} {w : Str} (hw : scanW s = some w) (hs : scan (s.drop (w.length + 2)) = none) : scanF scan n known s = none := by
  cases n with
  | zero => rfl
  | succ n =>
    unfold scanF
    rw [hw]
    dsimp only
    split
    · rfl
    · rw [hs]
end Ub
namespace Ub
open PySem PySem.Spec PyProof.Rows L2
theorem drop_suf {l pre r : List Nat} (h : l = pre ++ r) : l.drop (l.length - r.length) = r := by
  subst h
  rw [List.length_append, Nat.add_sub_cancel, List.drop_left]
theorem nextF_end {scan : List Nat → Option (Tr × List Nat)} {n : Nat} {known : List Str} {w : Str} {t : Tr} {r : List Nat} (h : r.take 1 = [125]) : ∃ r', r = 125 :: r' ∧ nextF scan n known w t r = some (.cons w t .nil, r') := by
  cases r with
  | nil => cases h
  | cons c r =>
    have h1 : [c] = [125] := h
    injection h1 with h2
    subst h2
    exact ⟨r, rfl, rfl⟩
theorem nextF_bad {scan : List Nat → Option (Tr × List Nat)} {n : Nat} {known : List Str} {w : Str} {t : Tr} {r : List Nat} (h : r.take 1 ≠ [125]) (h2 : r.take 2 ≠ [44, 32]) : nextF scan n known w t r = none := by
  unfold nextF
  split
  · exact absurd rfl h
  · exact absurd rfl h2
  · rfl
theorem nextF_on {scan : List Nat → Option (Tr × List Nat)} {n : Nat} {known : List Str} {w : Str} {t : Tr} {r : List Nat} (h : r.take 2 = [44, 32]) : ∃ r', r = 44 :: 32 :: r' ∧ nextF scan n known w t r = (scanF scan n (known ++ [w]) r').map fun p => (.cons w t p.1, p.2) := by
  obtain ⟨r', rfl⟩ := take2_head h
  exact ⟨r', rfl, rfl⟩
end Ub

namespace Up
open PySem PySem.Spec PyProof.Rows L2 Ub Ur Ug Ue
/-! ### which texts are shapes -/
def good (t : Tr) : Prop := Fine 3 t ∧ t.recs ≤ 5 ∧ t.plains ≤ 5
def shapeOf (z : Str) : Option Tr := match scanS 3 (cs z) with
  | some (t, []) => if t.recs ≤ 5 ∧ t.plains ≤ 5 then some t else none
  | _ => none
theorem cs_inj {a b : Str} (h : cs a = cs b) : a = b := by
  obtain ⟨⟨x⟩⟩ := a
  obtain ⟨⟨y⟩⟩ := b
  have : x = y := h
  rw [this]
theorem shapeOf_out {z : Str} {t : Tr} (h : shapeOf z = some t) : good t ∧ z = t.text := by
  unfold shapeOf at h
  split at h
  · rename_i u hs
    split at h
    · rename_i hb
      cases h
      obtain ⟨h1, h2⟩ := scanS_out 3 _ _ _ hs
      rw [List.append_nil] at h2
      exact ⟨⟨h1, hb.1, hb.2⟩, cs_inj (by rw [cs_text]; exact h2)⟩
    · cases h
  · cases h
theorem shapeOf_in {t : Tr} (h : good t) : shapeOf t.text = some t := by
  have e := scanS_in 3 t [] h.1
  rw [List.append_nil, ← cs_text] at e
  unfold shapeOf
  rw [e]
  exact if_pos ⟨h.2.1, h.2.2⟩
theorem fineF_mono {p q : Tr → Prop} (h : ∀ t, p t → q t) : ∀ {n : Nat} {kn : List Str} {t : Tr}, FineF p n kn t → FineF q n kn t
  | 0, _, _, hf => hf.elim
  | _ + 1, _, .nil, hf => hf.elim
  | n + 1, kn, .cons w t r, ⟨h1, h2, h3, h4⟩ => ⟨h1, h2, h t h3, h4.imp (fun z => z) fun z => fineF_mono h z⟩
theorem fine_mono : ∀ {f : Nat} {t : Tr}, Fine f t → Fine (f + 1) t
  | 0, _, h => .inl h
  | _ + 1, _, h => h.imp (fun z => z) fun z => fineF_mono (fun _ y => fine_mono y) z
theorem fineF_fields {p : Tr → Prop} : ∀ {n : Nat} {kn : List Str} {t : Tr}, FineF p n kn t → (∀ m ∈ t.fields, p m.2 ∧ isWord m.1 = true ∧ m.1 ∉ kn) ∧ (t.fields.map (·.1)).Nodup
  | 0, _, _, hf => hf.elim
  | _ + 1, _, .nil, hf => hf.elim
  | n + 1, kn, .cons w t r, ⟨h1, h2, h3, h4⟩ => by
    have hr : (∀ m ∈ r.fields, p m.2 ∧ isWord m.1 = true ∧ m.1 ∉ kn ++ [w]) ∧ (r.fields.map (·.1)).Nodup := by
      rcases h4 with rfl | h4
      · exact ⟨(fun m hm => nomatch hm), List.nodup_nil⟩
      · exact fineF_fields h4
    have ef : (Tr.cons w t r).fields = (w, t) :: r.fields := rfl
    rw [ef]
    refine ⟨fun m hm => ?_, ?_⟩
    · rcases List.mem_cons.mp hm with e | hm
      · rw [e]
        exact ⟨h3, h1, h2⟩
      · obtain ⟨a, b, c⟩ := hr.1 m hm
        exact ⟨a, b, fun z => c (List.mem_append_left _ z)⟩
    · rw [List.map_cons, List.nodup_cons]
      refine ⟨fun z => ?_, hr.2⟩
      obtain ⟨m, hm, e⟩ := List.mem_map.mp z
      exact (hr.1 m hm).2.2 (by rw [e]; simp)
theorem fine_fields {f : Nat} {t : Tr} (h : Fine f t) : (∀ m ∈ t.fields, Fine f m.2 ∧ isWord m.1 = true) ∧ (t.fields.map (·.1)).Nodup := by
  have nl : (∀ m ∈ (Tr.nil).fields, Fine f m.2 ∧ isWord m.1 = true) ∧ ((Tr.nil).fields.map (·.1)).Nodup := ⟨(fun m hm => nomatch hm), List.nodup_nil⟩
  cases f with
  | zero =>
    have e : t = .nil := h
    rw [e]
    exact nl
  | succ f =>
    rcases h with e | h
    · rw [e]
      exact nl
    · obtain ⟨a, b⟩ := fineF_fields h
      exact ⟨fun m hm => ⟨fine_mono (a m hm).1, (a m hm).2.1⟩, b⟩
theorem le_sum : ∀ {l : List Nat} {x : Nat}, x ∈ l → x ≤ l.sum
  | y :: l, x, h => by
    rw [List.sum_cons]
    rcases List.mem_cons.mp h with e | h
    · omega
    · have := le_sum h
      omega
theorem good_fields {t : Tr} (h : good t) : (∀ m ∈ t.fields, good m.2 ∧ isWord m.1 = true) ∧ (t.fields.map (·.1)).Nodup := by
  obtain ⟨h1, h2, h3⟩ := h
  obtain ⟨a, b⟩ := fine_fields h1
  refine ⟨fun m hm => ⟨⟨(a m hm).1, ?_, ?_⟩, (a m hm).2⟩, b⟩
  · have z := le_sum (List.mem_map.mpr ⟨m, hm, rfl⟩ : m.2.recs ∈ t.fields.map fun p => p.2.recs)
    have e := Tr.srec_eq t
    have : t.isNil = false := by cases t with | nil => exact nomatch hm | cons _ _ _ => rfl
    have er : t.recs = 1 + t.srec := by unfold Tr.recs; rw [this]; rfl
    omega
  · have z := le_sum (List.mem_map.mpr ⟨m, hm, rfl⟩ : m.2.plains ∈ t.fields.map fun p => p.2.plains)
    have e := Tr.spla_eq t
    have : t.isNil = false := by cases t with | nil => exact nomatch hm | cons _ _ _ => rfl
    have er : t.plains = t.spla := by unfold Tr.plains; rw [this]; rfl
    omega
theorem good_has {t : Tr} (h : good t) : t.depth ≤ 3 ∧ t.size ≤ 39 ∧ t.short := by
  obtain ⟨a, b, c⟩ := fine_has 3 t h.1
  exact ⟨a, Nat.le_trans b (bnd3 (Nat.le_refl _)), c⟩
/-! ### promises of the readers -/
def sp_bounded : Sp := fun vs H Q _ => ∃ t v, vs = [v] ∧ TrAt H t v ∧ t.depth < 4 ∧ t.size ≤ 1000 ∧ t.short ∧ ∀ H', Same H H' → Q (.bl (decide (t.recs ≤ 5 ∧ t.plains ≤ 5))) H'
def sp_tree_of (K : PySem.W.Frag) : Sp := fun vs H Q _ => ∃ x, vs = [x] ∧ ((∃ z : Str, x = .str z ∧ z.length ≤ 100000 ∧ ∀ H', Same H H' → (match shapeOf z with
    | none => Q .non H'
    | some t => ∀ v, TrAt H' t v → Q v H')) ∨ (NotStr K H x ∧ ∀ H', Same H H' → Q .non H'))
/-! ### a class by its name -/
structure CalM (P : Program) (w : World) (K : PySem.W.Frag) (mg : Str → Option Value) (base : Heap) (k : Nat) (x : Str) (C : Addr) (ps : List Str) (sp : Sp) : Prop where
  ex : ∃ f fd, Mk K C f ∧ FnOk P w K mg base (CX P w) k f fd ps sp ∧ mg x = some (.ref C) ∧ Binds K fd ps []
def tMakeS (C : Addr) (sp : Sp) (E : L2.St → XK) (t : TA) : TE := fun σ H Q => t σ H fun vs H1 => ∀ x dx, H1 x = none → H1 dx = none → dx ≠ x → sp (.ref x :: vs) (upd (upd H1 dx (.own x)) x (.ins C dx [])) (fun v H2 => v = .non ∧ Q (.ref x) H2) (E σ)
section
variable {X : Cx} {k : Nat} {x : Str} {C : Addr} {ps : List Str} {sp : Sp} {e : Expr} {es : List Expr} {p pos : Pos} {t : TA} {E : L2.St → XK}
theorem passE0 {σ : L2.St} : PassesAt (CX X.prog X.w) X σ E0 := fun _ _ _ _ _ _ ⟨_, _, _, _, _, _, _, _, _, _, _, _, z⟩ => z.elim
theorem passW {W : WX} (tk : Takes X W) (σ : L2.St) : PassesAt (CX X.prog X.w) X σ (fun cls d H => W cls d σ H) := fun _ _ _ _ _ I c => tk _ _ (XE.of_call I (fun _ _ _ h => h) c)
theorem pe_makeS (c : CalM X.prog X.w X.K X.mg X.base k x C ps sp) (hx : ∀ σ, PassesAt (CX X.prog X.w) X σ (E σ)) (hr : Room (k + 1) X.A) (hg : Gl X x)
    (ha : PA X (e :: es) t) (hdb : (x == ("__debug__" : Str)) = false := by decide) (he : starEach (e :: es) X.env = (false, eval e X.env) :: starEach es X.env := by rfl) (hpl : (backTo pos (starEach es X.env)).any (·.1) = false := by rfl) :
    PE X (.Call (.Name x p) (e :: es) [] pos) (tMakeS C sp E t) := by
  obtain ⟨f, fd, M, F, hm, hb⟩ := c.ex
  refine ⟨fun pins s σ H Q I h => wpAny_Call_Name_kw (ld_glob I hg hm ?_ hdb)⟩
  refine PySem.W.callWith_K (h₀ := X.base) I.ok.mod.kin M.kp (thn (ha.run pos pins s σ H _ I h) fun us s1 ⟨vs, H1, J, rv, q⟩ => ⟨J.kIn, ?_⟩) he hpl
  have z := q (s1.heap.objs.size + 1) s1.heap.objs.size (J.hok.fresh (Nat.le_succ _)) (J.hok.fresh (Nat.le_refl _)) (Nat.ne_of_lt (Nat.lt_succ_self _))
  have J2 := Inv.made (C := C) J
  have r2 : Vals (V.ref (s1.heap.objs.size + 1) :: vs) (Value.ref (s1.heap.objs.size + 1) :: us) := .cons rfl rv
  have hl : (Value.ref (s1.heap.objs.size + 1) :: us).length = ps.length := by
    rw [← r2.length]
    exact F.len _ _ _ _ z
  have bi := hb _ (Value.ref (s1.heap.objs.size + 1) :: us) J2.kIn (by rw [List.append_nil]; exact hl)
  rw [List.append_nil] at bi
  refine wpAny_call (make_map (f := f) J.kIn M.makes M.init (beq_iff_eq.mp M.fn) (codeAny_mono (F.run _ X.stack _ _ ⟨Value.ref (s1.heap.objs.size + 1) :: us, []⟩ _ _ _ (E σ) (hr.make C us []) (J2.env0.make C us []) bi r2 z) fun r s2 hq => ?_))
  match r, hq with
  | .error e, hq => exact hx σ pins _ _ e s2 J2 hq
  | .ok (.ret u), hq =>
    obtain ⟨v, H2, J3, r3, ev, q3⟩ := J2.after hq
    subst ev
    exact ⟨r3, .ref _, H2, J3, rfl, q3⟩
end
/-! ### the objects of a shape -/
inductive Sg where
  | nil
  | cons (w : Str) (p : Addr) (sub r : Sg)
namespace Sg
def tr : Sg → Tr
  | nil => .nil
  | cons w _ s r => .cons w s.tr r.tr
def dict : Sg → List (Key × V)
  | nil => []
  | cons w p _ r => (.inr w, .ref p) :: r.dict
def app : Sg → Sg → Sg
  | nil, h => h
  | cons w p s r, h => cons w p s (r.app h)
/-- a path below a field -/
def ext (w : Str) : Key → Key
  | .inl i => .inl i
  | .inr p => .inr (("." : Str) ++ w ++ Txt.mul p (if p = "." then 0 else 1))
def puts : Sg → List (Key × V) → List (Key × V)
  | nil, acc => acc
  | cons w p s r, acc => r.puts ((s.puts [(.inr ".", .ref p)]).foldl (fun a kv => putK a (ext w kv.1) kv.2) acc)
def spots (g : Sg) (x : Addr) : List (Key × V) := g.puts [(.inr ".", .ref x)]
theorem app_tr : ∀ (g h : Sg), (g.app h).tr.fields = g.tr.fields ++ h.tr.fields
  | nil, _ => rfl
  | cons w p s r, h => congrArg (List.cons (w, s.tr)) (app_tr r h)
theorem app_dict : ∀ (g h : Sg), (g.app h).dict = g.dict ++ h.dict
  | nil, _ => rfl
  | cons w p s r, h => congrArg (List.cons _) (app_dict r h)
theorem app_puts : ∀ (g h : Sg) (acc : List (Key × V)), (g.app h).puts acc = h.puts (g.puts acc)
  | nil, _, _ => rfl
  | cons w p s r, h, acc => app_puts r h _
end Sg
/-- Z: where its things may lie -/
def Sh1 (Z : Addr → Prop) (C : Addr) (H : Hp) (x : Addr) (g : Sg) : Prop := ∃ dx tv na fa sa, H x = some (.ins C dx [("text", .str g.tr.text), ("tree", tv), ("names", .ref na), ("fields", .ref fa), ("spots", .ref sa)]) ∧ TrAt H g.tr tv ∧
  H na = some (.tup (g.tr.fields.map fun m => .str m.1)) ∧ H fa = some (.dK g.dict) ∧ H sa = some (.dK (g.spots x)) ∧ Z x ∧ Z fa ∧ Z sa
def ShL (Z : Addr → Prop) (C : Addr) (H : Hp) : Sg → Prop
  | .nil => True
  | .cons _ p s r => Sh1 Z C H p s ∧ ShL Z C H s ∧ ShL Z C H r
def ShG (Z : Addr → Prop) (C : Addr) (H : Hp) (x : Addr) (g : Sg) : Prop := Sh1 Z C H x g ∧ ShL Z C H g
/-- what of the places Z is no list stays, and all tuples -/
def Kz (Z : Addr → Prop) (H H' : Hp) : Prop := ∀ b o, H b = some o → (∀ xs, o ≠ .lst xs) → (Z b ∨ ∃ xs, o = .tup xs) → H' b = some o
theorem Sh1.kz {Z : Addr → Prop} {C : Addr} {H H' : Hp} {x : Addr} {g : Sg} (k : Kz Z H H') (h : Sh1 Z C H x g) : Sh1 Z C H' x g := by
  obtain ⟨dx, tv, na, fa, sa, h1, h2, h3, h4, h5, z1, z2, z3⟩ := h
  exact ⟨dx, tv, na, fa, sa, k _ _ h1 (fun _ z => nomatch z) (.inl z1), h2.tups (fun c xs z => k _ _ z (fun _ y => nomatch y) (.inr ⟨_, rfl⟩)), k _ _ h3 (fun _ z => nomatch z) (.inr ⟨_, rfl⟩), k _ _ h4 (fun _ z => nomatch z) (.inl z2), k _ _ h5 (fun _ z => nomatch z) (.inl z3), z1, z2, z3⟩
theorem ShL.kz {Z : Addr → Prop} {C : Addr} {H H' : Hp} (k : Kz Z H H') : ∀ {g : Sg}, ShL Z C H g → ShL Z C H' g
  | .nil, _ => trivial
  | .cons _ _ _ _, ⟨a, b, c⟩ => ⟨a.kz k, ShL.kz k b, ShL.kz k c⟩
/-- the places may be told by the things themselves -/
theorem Sh1.imp {Z Z' : Addr → Prop} {C : Addr} {H : Hp} {x : Addr} {g : Sg} (i : ∀ b, Z b → H b ≠ none → Z' b) (h : Sh1 Z C H x g) : Sh1 Z' C H x g := by
  obtain ⟨dx, tv, na, fa, sa, h1, h2, h3, h4, h5, z1, z2, z3⟩ := h
  exact ⟨dx, tv, na, fa, sa, h1, h2, h3, h4, h5, i _ z1 (by rw [h1]; simp), i _ z2 (by rw [h4]; simp), i _ z3 (by rw [h5]; simp)⟩
theorem ShL.imp {Z Z' : Addr → Prop} {C : Addr} {H : Hp} (i : ∀ b, Z b → H b ≠ none → Z' b) : ∀ {g : Sg}, ShL Z C H g → ShL Z' C H g
  | .nil, _ => trivial
  | .cons _ _ _ _, ⟨a, b, c⟩ => ⟨a.imp i, ShL.imp i b, ShL.imp i c⟩
theorem ShL.app {Z : Addr → Prop} {C : Addr} {H : Hp} : ∀ {g h : Sg}, ShL Z C H g → ShL Z C H h → ShL Z C H (g.app h)
  | .nil, _, _, h => h
  | .cons _ _ _ _, _, ⟨a, b, c⟩, h => ⟨a, b, ShL.app c h⟩
theorem ShG.kz {Z : Addr → Prop} {C : Addr} {H H' : Hp} {x : Addr} {g : Sg} (k : Kz Z H H') (h : ShG Z C H x g) : ShG Z C H' x g := ⟨h.1.kz k, h.2.kz k⟩
theorem ShG.imp {Z Z' : Addr → Prop} {C : Addr} {H : Hp} {x : Addr} {g : Sg} (i : ∀ b, Z b → H b ≠ none → Z' b) (h : ShG Z C H x g) : ShG Z' C H x g := ⟨h.1.imp i, h.2.imp i⟩
theorem kz_of {Z : Addr → Prop} {H H' : Hp} (s : Same H H') : Kz Z H H' := fun b o h _ _ => s b o h
theorem putF_snoc {f : Str} {v : V} : ∀ {fs : List (Str × V)}, f ∉ fs.map (·.1) → putF f v fs = fs ++ [(f, v)]
  | [], _ => rfl
  | (g, y) :: r, h => by
    rw [List.map_cons, List.mem_cons, not_or] at h
    unfold putF
    rw [if_neg (Ne.symm h.1), putF_snoc h.2]
    rfl
/-! ### sizes of the spots -/
def KeyOk (n : Nat) (kvs : List (Key × V)) : Prop := ∀ kv ∈ kvs, ∃ p : Str, kv.1 = .inr p ∧ p.length ≤ n
theorem KeyOk.put {n : Nat} {kvs : List (Key × V)} {p : Str} {v : V} (h : KeyOk n kvs) (hp : p.length ≤ n) : KeyOk n (putK kvs (.inr p) v) := by
  intro kv hk
  unfold putK at hk
  split at hk
  · obtain ⟨y, hy, e⟩ := List.mem_map.mp hk
    obtain ⟨q, e1, e2⟩ := h y hy
    by_cases c : y.1 = .inr p
    · rw [if_pos c] at e
      rw [← e]
      exact ⟨q, e1, e2⟩
    · rw [if_neg c] at e
      rw [← e]
      exact ⟨q, e1, e2⟩
  · rcases List.mem_append.mp hk with hk | hk
    · exact h kv hk
    · simp only [List.mem_cons, List.not_mem_nil, or_false] at hk
      rw [hk]
      exact ⟨p, rfl, hp⟩
theorem putK_len (kvs : List (Key × V)) (k : Key) (v : V) : (putK kvs k v).length ≤ kvs.length + 1 := by
  unfold putK
  split
  · rw [List.length_map]; omega
  · rw [List.length_append]; exact Nat.le_refl _
theorem mulLen (z : Str) (n : Nat) : (Txt.mul z (n : Int)).length = z.length * n := by
  have h := len_mul z (n : Int)
  have e : (if decide ((n : Int) < 0) = true then (0 : Int) else (n : Int)) = (n : Int) := by
    rw [decide_eq_false (by omega)]
    rfl
  rw [e] at h
  have : (((Txt.mul z (n : Int)).length : Nat) : Int) = ((z.length * n : Nat) : Int) := by rw [h, Int.natCast_mul]
  omega
theorem mulLen01 (p : Str) (b : Bool) : (Txt.mul p (if b = true then 1 else 0)).length ≤ p.length := by
  cases b with
  | true =>
    have := mulLen p 1
    have e : (Txt.mul p (if true = true then 1 else 0)) = Txt.mul p ((1 : Nat) : Int) := rfl
    rw [e, this]
    omega
  | false =>
    have := mulLen p 0
    have e : (Txt.mul p (if false = true then 1 else 0)) = Txt.mul p ((0 : Nat) : Int) := rfl
    rw [e, this]
    omega
theorem ext_eq (w p : Str) : Sg.ext w (.inr p) = .inr (("." : Str) ++ w ++ Txt.mul p (if (!decide (V.str p = V.str ".")) = true then 1 else 0)) := by
  show Sum.inr (("." : Str) ++ w ++ Txt.mul p (if p = "." then 0 else 1)) = _
  by_cases h : p = "."
  · rw [if_pos h, decide_eq_true (by rw [h])]
    rfl
  · rw [if_neg h, decide_eq_false (fun e => h (V.str.inj e))]
    rfl
theorem dot_len : (("." : Str)).length = 1 := by decide +kernel
theorem ext_ok {w p : Str} {n : Nat} (hw : w.length ≤ 8) (hp : p.length ≤ n) : ∃ q : Str, Sg.ext w (.inr p) = .inr q ∧ q.length ≤ n + 9 := by
  refine ⟨_, ext_eq w p, ?_⟩
  have h := mulLen01 p (!decide (V.str p = V.str "."))
  rw [len_app, len_app, dot_len]
  omega
theorem fold_ok {w : Str} {m n : Nat} (hw : w.length ≤ 8) (hm : m + 9 ≤ n) : ∀ {l acc : List (Key × V)}, KeyOk m l → KeyOk n acc → KeyOk n (l.foldl (fun a kv => putK a (Sg.ext w kv.1) kv.2) acc)
  | [], _, _, h => h
  | kv :: l, acc, hl, h => by
    obtain ⟨p, e, lp⟩ := hl kv (List.mem_cons_self ..)
    obtain ⟨q, eq, lq⟩ := ext_ok hw lp
    refine fold_ok hw hm (l := l) (fun y hy => hl y (List.mem_cons_of_mem _ hy)) ?_
    show KeyOk n (putK acc (Sg.ext w kv.1) kv.2)
    rw [e, eq]
    exact h.put (by omega)
theorem fold_len (w : Str) : ∀ (l acc : List (Key × V)), (l.foldl (fun a kv => putK a (Sg.ext w kv.1) kv.2) acc).length ≤ acc.length + l.length
  | [], _ => Nat.le_refl _
  | kv :: l, acc => by
    have h := fold_len w l (putK acc (Sg.ext w kv.1) kv.2)
    have h2 := putK_len acc (Sg.ext w kv.1) kv.2
    rw [List.length_cons]
    exact Nat.le_trans h (by omega)
theorem puts_ok : ∀ {g : Sg} {acc : List (Key × V)} {n : Nat}, g.tr.short → (∀ m ∈ g.tr.fields, 9 * m.2.depth + 10 ≤ n) → KeyOk n acc → KeyOk n (g.puts acc)
  | .nil, _, _, _, _, h => h
  | .cons w p s r, acc, n, sh, hb, h => by
    have e : (Sg.cons w p s r).tr.fields = (w, s.tr) :: r.tr.fields := rfl
    rw [e] at hb
    obtain ⟨hw, hs⟩ := Tr.short_mem sh (p := (w, s.tr)) (by rw [e]; exact List.mem_cons_self ..)
    have hr : r.tr.short := sh.2.2
    have h0 := hb (w, s.tr) (List.mem_cons_self ..)
    have sub : KeyOk (9 * s.tr.depth + 1) (s.puts [(.inr ".", .ref p)]) := puts_ok hs (fun m hm => by have := Tr.depth_lt hm; omega) (fun kv hk => by
      simp only [List.mem_cons, List.not_mem_nil, or_false] at hk
      rw [hk]
      exact ⟨".", rfl, by rw [dot_len]; omega⟩)
    exact puts_ok (g := r) hr (fun m hm => hb m (List.mem_cons_of_mem _ hm)) (fold_ok hw (by have : 9 * s.tr.depth + 10 ≤ n := h0; omega) sub h)
theorem puts_len : ∀ (g : Sg) (acc : List (Key × V)), (g.puts acc).length ≤ acc.length + g.tr.size
  | .nil, _ => Nat.le_refl _
  | .cons w p s r, acc => by
    have h1 := puts_len s [(.inr ".", .ref p)]
    have h2 := fold_len w (s.puts [(.inr ".", .ref p)]) acc
    have h3 := puts_len r ((s.puts [(.inr ".", .ref p)]).foldl (fun a kv => putK a (Sg.ext w kv.1) kv.2) acc)
    have e : (Sg.cons w p s r).tr.size = 1 + s.tr.size + r.tr.size := rfl
    have e2 : (Sg.cons w p s r).puts acc = r.puts ((s.puts [(.inr ".", .ref p)]).foldl (fun a kv => putK a (Sg.ext w kv.1) kv.2) acc) := rfl
    rw [e, e2]
    simp only [List.length_cons, List.length_nil] at h1
    omega
theorem app_size : ∀ (g h : Sg), (g.app h).tr.size = g.tr.size + h.tr.size
  | .nil, h => by show h.tr.size = 0 + h.tr.size; omega
  | .cons w p s r, h => by
    show 1 + s.tr.size + (r.app h).tr.size = 1 + s.tr.size + r.tr.size + h.tr.size
    rw [app_size r h]
    omega
theorem app_nil : ∀ g : Sg, g.app .nil = g
  | .nil => rfl
  | .cons w p s r => congrArg (Sg.cons w p s) (app_nil r)
theorem app_assoc : ∀ g h k : Sg, (g.app h).app k = g.app (h.app k)
  | .nil, _, _ => rfl
  | .cons w p s r, h, k => congrArg (Sg.cons w p s) (app_assoc r h k)
theorem ShL.right {Z : Addr → Prop} {C : Addr} {H : Hp} : ∀ {g h : Sg}, ShL Z C H (g.app h) → ShL Z C H h
  | .nil, _, h => h
  | .cons _ _ _ _, _, ⟨_, _, c⟩ => ShL.right c
theorem valV_at : ∀ {g1 : Sg} {w : Str} {p : Addr} {s r : Sg}, w ∉ g1.tr.fields.map (·.1) → valV (g1.app (.cons w p s r)).dict (.inr w) = some (.ref p)
  | .nil, w, p, s, r, _ => valV_pos rfl
  | .cons w0 p0 s0 r0, w, p, s, r, h => by
    have e : (Sg.cons w0 p0 s0 r0).tr.fields.map (·.1) = w0 :: r0.tr.fields.map (·.1) := rfl
    rw [e, List.mem_cons, not_or] at h
    show valV ((.inr w0, .ref p0) :: (r0.app (.cons w p s r)).dict) (.inr w) = _
    rw [valV_neg (fun z => h.1 (Sum.inr.inj z).symm)]
    exact valV_at h.2
theorem Sg.dict_keys : ∀ (g : Sg) (k : Key), (g.dict.any fun kv => decide (kv.1 = k)) = true → ∃ m ∈ g.tr.fields, k = .inr m.1
  | .nil, k, h => by simp [Sg.dict] at h
  | .cons w p s r, k, h => by
    have e : (Sg.cons w p s r).dict = (.inr w, .ref p) :: r.dict := rfl
    rw [e, List.any_cons, Bool.or_eq_true] at h
    rcases h with h | h
    · exact ⟨(w, s.tr), List.mem_cons_self .., (of_decide_eq_true h).symm⟩
    · obtain ⟨m, h1, h2⟩ := Sg.dict_keys r k h
      exact ⟨m, List.mem_cons_of_mem _ h1, h2⟩
theorem Sg.put_new {g : Sg} {w : Str} {v : V} (h : w ∉ g.tr.fields.map (·.1)) : putK g.dict (.inr w) v = g.dict ++ [(.inr w, v)] := by
  unfold putK
  rw [if_neg]
  intro z
  obtain ⟨m, h1, h2⟩ := g.dict_keys _ z
  exact h (List.mem_map.mpr ⟨m, h1, (Sum.inr.inj h2).symm⟩)
theorem Sg.dict_len : ∀ g : Sg, g.dict.length = g.tr.fields.length
  | .nil => rfl
  | .cons _ _ _ r => congrArg Nat.succ (Sg.dict_len r)
def sp_shape (K : PySem.W.Frag) (C B : Addr) (d : Nat) : Sp := fun vs H Q E => ∃ x y dx, vs = [.ref x, y] ∧ H x = some (.ins C dx []) ∧
  ((∃ t, good t ∧ t.depth < d ∧ y = .str t.text ∧ ∀ g H', g.tr = t → (∀ b o, H b = some o → b ≠ x → H' b = some o) → ShG (fun b => b = x ∨ H b = none) C H' x g → Q .non H') ∨
   (0 < d ∧ ((∃ z : Str, y = .str z ∧ z.length ≤ 100000 ∧ shapeOf z = none) ∨ NotStr K H y) ∧ ∀ e H', Same H H' → H e = none → H' e = some (.xd [("text", y)]) → E (.ref B) (some e) H'))
end Up

namespace Ub
open PySem PySem.Spec PyProof.Rows L2
open Builtin Builtin.Str PySem.StrLaws
/-! ### the law's own way to a word -/
def noCol (c : Nat) : Bool := !(c == 58)
theorem col_cs : cs (":" : Str) = [58] := by decide +kernel
theorem col_len : ((":" : Str)).length = 1 := by decide +kernel
theorem sub_col (z : Str) (i : Nat) : subAt z ":" i = true ↔ ((cs z).drop i).take 1 = [58] := by
  rw [subAt_eq]
  show (((cs z).drop i).take ((":" : Str)).length == cs (":" : Str)) = true ↔ _
  rw [col_len, col_cs]
  exact beq_iff_eq
theorem takeWhile_at : ∀ (l : List Nat) (i : Nat), (∀ j, j < i → ((l.drop j).take 1) ≠ [58]) → (((l.drop i).take 1) = [58] ∨ l.length ≤ i) → l.takeWhile noCol = l.take i
  | [], i, _, _ => by simp
  | c :: l, 0, _, h => by
    rcases h with h | h
    · have e : c = 58 := by simpa using h
      rw [e]
      rfl
    · simp at h
  | c :: l, i + 1, hj, h => by
    have hc : noCol c = true := by
      have := hj 0 (Nat.succ_pos _)
      unfold noCol
      cases hb : c == 58 with
      | false => rfl
      | true =>
        have e : c = 58 := by simpa using hb
        rw [e] at this
        exact absurd rfl this
    rw [List.takeWhile_cons, hc, List.take_succ_cons]
    show c :: l.takeWhile noCol = _
    rw [takeWhile_at l i (fun j h => hj (j + 1) (by omega)) (h.imp (fun z => z) (fun z => by simp at z; omega))]
theorem part_colon (x : Str) : cs (Txt.partition x ":").1 = (cs x).takeWhile noCol := by
  unfold Txt.partition
  rw [occ1]
  have key : ∀ j, (decide (j + ((":" : Str)).length ≤ x.length) && subAt x ":" j) = true ↔ ((cs x).drop j).take 1 = [58] := fun j => by
    rw [Bool.and_eq_true, decide_eq_true_eq, sub_col, col_len]
    constructor
    · exact fun h => h.2
    · intro h
      refine ⟨?_, h⟩
      have := congrArg List.length h
      rw [List.length_take, List.length_drop, cs_len] at this
      have e : ([58] : List Nat).length = 1 := rfl
      omega
  rcases find_range' (fun i => decide (i + ((":" : Str)).length ≤ x.length) && subAt x ":" i) (x.length + 1 - 0) 0 with ⟨i, h1, h2, h3, h4, h5⟩ | ⟨h1, h2⟩
  · rw [h5]
    show cs (strSub x 0 i) = _
    rw [takeWhile_at (cs x) i (fun j hj hq => by
      have := h4 j (Nat.zero_le _) hj
      rw [(key j).mpr hq] at this
      cases this) (.inl ((key i).mp h3))]
    simp [strSub, cs]
  · rw [h2]
    show cs x = _
    rw [takeWhile_at (cs x) x.length (fun j hj hq => by
      have := h1 j (Nat.zero_le _) (by omega)
      rw [(key j).mpr hq] at this
      cases this) (.inr (by rw [cs_len]; exact Nat.le_refl _)), List.take_of_length_le (by rw [cs_len]; exact Nat.le_refl _)]
/-- the word that the law cuts -/
def lawW (s : List Nat) : List Nat := (s.take 9).takeWhile noCol
theorem lawW_len (s : List Nat) : (lawW s).length ≤ 9 := by
  have h := (List.takeWhile_prefix (l := s.take 9) noCol).length_le
  rw [List.length_take] at h
  exact Nat.le_trans h (by omega)
theorem lawW_pre (s : List Nat) : s.take (lawW s).length = lawW s := by
  obtain ⟨r, h⟩ := List.takeWhile_prefix (l := s.take 9) noCol
  have h : lawW s ++ r = s.take 9 := h
  have hl := lawW_len s
  have e : s.take (lawW s).length = (s.take 9).take (lawW s).length := by rw [List.take_take, Nat.min_eq_left hl]
  rw [e, ← h, List.take_left']
  rfl
theorem isWord_let {z : Str} (h : isWord z = true) : ∀ c ∈ cs z, isLet c = true := by
  unfold isWord at h
  simp only [Bool.and_eq_true] at h
  exact List.all_eq_true.mp h.2.2.1
theorem noCol_let {c : Nat} (h : isLet c = true) : noCol c = true := by
  unfold noCol
  cases hb : c == 58 with
  | false => rfl
  | true =>
    have e : c = 58 := by simpa using hb
    rw [e, let_colon] at h
    cases h
theorem scanW_law (s : List Nat) : scanW s = if isWord ⟨(lawW s).toArray⟩ = true ∧ (s.drop (lawW s).length).take 2 = [58, 32] then some ⟨(lawW s).toArray⟩ else none := by
  by_cases h : isWord ⟨(lawW s).toArray⟩ = true ∧ (s.drop (lawW s).length).take 2 = [58, 32]
  · rw [if_pos h]
    have hl := isWord_let h.1
    have e : s.takeWhile isLet = s.take (lawW s).length := by
      refine takeWhile_split s _ (fun c hc => hl c ?_) ?_
      · rw [cs_of]
        rwa [lawW_pre] at hc
      · cases hd : s.drop (lawW s).length with
        | nil => rw [hd] at h; exact nomatch h.2
        | cons c r =>
          rw [hd] at h
          have e0 : c = 58 := (List.cons.inj h.2).1
          exact ⟨r, by rw [e0]⟩
    rw [lawW_pre] at e
    unfold scanW
    rw [e, if_pos h]
  · rw [if_neg h]
    cases hs : scanW s with
    | none => rfl
    | some w =>
      exfalso
      unfold scanW at hs
      split at hs
      · rename_i g
        have lw := (isWord_len g.1).2
        have lw : (s.takeWhile isLet).length ≤ 8 := by simpa [Str.length] using lw
        obtain ⟨r, hr⟩ := List.takeWhile_prefix (l := s) isLet
        have hr0 : s.drop (s.takeWhile isLet).length = r := by
          conv => lhs; arg 2; rw [← hr]
          rw [List.drop_left']
          rfl
        rw [hr0] at g
        have e : lawW s = s.takeWhile isLet := by
          unfold lawW
          have h9 : s.take 9 = s.takeWhile isLet ++ r.take (9 - (s.takeWhile isLet).length) := by
            conv => lhs; rw [← hr]
            rw [List.take_append, List.take_of_length_le (by omega)]
          rw [h9, List.takeWhile_append_of_pos (fun c hc => noCol_let (isWord_let g.1 c (by rw [cs_of]; exact hc)))]
          cases r with
          | nil => exact nomatch g.2
          | cons c r =>
            have e0 : c = 58 := (List.cons.inj g.2).1
            rw [e0]
            have : 9 - (s.takeWhile isLet).length = (8 - (s.takeWhile isLet).length) + 1 := by omega
            rw [this, List.take_succ_cons, List.takeWhile_cons]
            simp [noCol]
        rw [e] at h
        exact h ⟨g.1, by rw [hr0]; exact g.2⟩
      · cases hs
def LScanOut (H' : Hp) (z : Str) (o : Option (Tr × List Nat)) (p : Addr) : Prop := match o with
  | none => H' p = some (.tup [.non, .int 0])
  | some (t, r) => ∃ q, TrAt H' t q ∧ H' p = some (.tup [q, .int ((z.length - r.length : Nat) : Int)])
def sp_lscan (d : Nat) : Sp := fun vs H Q _ => ∃ (z : Str) (a f : Nat), vs = [.str z, .int a, .int f] ∧ z.length ≤ 100000 ∧ a ≤ z.length ∧ f < d ∧ f ≤ 3 ∧ ∀ H' p, Same H H' → LScanOut H' z (scanS f ((cs z).drop a)) p → Q (.ref p) H'
theorem no_lscan {P : Program} {w : World} {K : PySem.W.Frag} {mg : Str → Option Value} {base : Heap} {f : Addr} {fd : FuncData} {x y z : Str} : FnOk P w K mg base CX0 0 f fd [x, y, z] (sp_lscan 0) :=
  ⟨fun vs H Q E h => by obtain ⟨_, _, _, rfl, _⟩ := h; rfl, fun A outer s H args us vs Q E _ _ _ _ h => by
    obtain ⟨_, _, _, _, _, _, h, _⟩ := h
    exact absurd h (Nat.not_lt_zero _)⟩
end Ub

namespace Up
open PySem PySem.Spec PyProof.Rows L2 Ub Ur Ug Ue
def sp_is_shape : Sp := fun vs H Q _ => ∃ z : Str, vs = [.str z] ∧ z.length ≤ 100000 ∧ ∀ H', Same H H' → Q (.bl (shapeOf z).isSome) H'
/-! ### texts of small signs -/
def Asc (z : Str) : Prop := ∀ c ∈ cs z, c < 128
theorem asc_app {a b : Str} (h : Asc a) (k : Asc b) : Asc (a ++ b) := fun c hc => by
  rw [cs_app] at hc
  rcases List.mem_append.mp hc with z | z
  · exact h c z
  · exact k c z
theorem asc_cut {z : Str} {lo hi : Option Int} (h : Asc z) : Asc (cutS z lo hi) := fun c hc => by
  unfold cutS at hc
  exact h c (List.mem_of_mem_drop (List.mem_of_mem_take (by simpa using hc)))
theorem let_small : ∀ c ∈ letters.cps.toList, c < 128 := by decide +kernel
theorem low_asc {z : Str} (h : Low z) : Asc z := fun c hc => let_small c (of_decide_eq_true (h c hc))
theorem word_asc {z : Str} (h : isWord z = true) : Asc z := low_asc (isWord_iff.mp h).2.2.1
def ascB (z : Str) : Bool := (cs z).all fun c => decide (c < 128)
theorem asc_of {z : Str} (h : ascB z = true) : Asc z := fun c hc => of_decide_eq_true (List.all_eq_true.mp h c hc)
def Tr.lows : Tr → Prop
  | .nil => True
  | .cons w t r => isWord w = true ∧ Tr.lows t ∧ Tr.lows r
theorem fineF_lows {p : Tr → Prop} (h : ∀ t, p t → Tr.lows t) : ∀ {n : Nat} {kn : List Str} {t : Tr}, FineF p n kn t → Tr.lows t
  | 0, _, _, hf => hf.elim
  | _ + 1, _, .nil, hf => hf.elim
  | n + 1, kn, .cons w t r, ⟨h1, _, h3, h4⟩ => ⟨h1, h t h3, by
    rcases h4 with rfl | h4
    · trivial
    · exact fineF_lows h h4⟩
theorem fine_lows : ∀ {f : Nat} {t : Tr}, Fine f t → Tr.lows t
  | 0, t, h => by
    have h : t = .nil := h
    rw [h]
    trivial
  | f + 1, t, h => by
    rcases h with h | h
    · rw [h]; trivial
    · exact fineF_lows (fun _ y => fine_lows y) h
theorem fcs_small : ∀ {t : Tr}, Tr.lows t → (∀ c ∈ fcs t, c < 128) ∧ ∀ c ∈ tcs t, c < 128
  | .nil, _ => ⟨(fun c hc => nomatch hc), fun c hc => by
    have e : c = 46 := by simpa [tcs, Tr.isNil] using hc
    rw [e]; decide⟩
  | .cons w t r, ⟨h1, h2, h3⟩ => by
    obtain ⟨_, a2⟩ := fcs_small h2
    obtain ⟨b1, _⟩ := fcs_small h3
    have hw := word_asc h1
    have k : ∀ c ∈ fcs (.cons w t r), c < 128 := fun c hc => by
      rw [fcs_cons, List.mem_append, List.mem_cons, List.mem_cons, List.mem_append] at hc
      rcases hc with hc | hc | hc | hc | hc
      · exact hw c hc
      · omega
      · omega
      · exact a2 c hc
      · by_cases hr : r.isNil = true
        · rw [if_pos hr] at hc
          exact nomatch hc
        · rw [if_neg hr, List.mem_cons, List.mem_cons] at hc
          rcases hc with hc | hc | hc
          · omega
          · omega
          · exact b1 c hc
    refine ⟨k, fun c hc => ?_⟩
    have e : tcs (.cons w t r) = 123 :: (fcs (.cons w t r) ++ [125]) := rfl
    rw [e, List.mem_cons, List.mem_append] at hc
    rcases hc with hc | hc | hc
    · omega
    · exact k c hc
    · have : c = 125 := by simpa using hc
      omega
theorem text_asc {f : Nat} {t : Tr} (h : Fine f t) : Asc t.text := fun c hc => by
  rw [cs_text] at hc
  exact (fcs_small (fine_lows h)).2 c hc
/-! ### lengths of slices -/
theorem cut_le (z : Str) {a : Nat} : (cutS z none (some (a : Int))).length ≤ a := by
  unfold cutS
  show ((z.cps.toList.drop _).take _).toArray.size ≤ a
  rw [List.size_toArray, List.length_take, HT.sIx_nat]
  omega
theorem cut_ge (z : Str) {a : Nat} (h : a ≤ z.length) : (cutS z (some (a : Int)) none).length ≤ z.length - a := by
  unfold cutS
  show ((z.cps.toList.drop _).take _).toArray.size ≤ _
  rw [List.size_toArray, List.length_take, List.length_drop, HT.sIx_nat, len_toList]
  omega
theorem cut_ge' (z : Str) {a : Nat} : (cutS z (some (a : Int)) none).length ≤ z.length - a := by
  unfold cutS
  show ((z.cps.toList.drop _).take _).toArray.size ≤ _
  rw [List.size_toArray, List.length_take, List.length_drop, HT.sIx_nat, len_toList]
  omega
theorem rp_str {z : Str} (h : Asc z) (hl : z.length ≤ 6200) : rpOk (.str z) = true := by
  have hz := PySem.StrLaws.reprText_len z (fun c hc => Nat.lt_trans (h c hc) (by decide))
  unfold rpOk
  have : (PyData.str z).shown = reprText z := rfl
  simp [PyData.showable, PyData.hasDict, PyData.depth, this]
  omega
theorem fold_mem {c : Nat} : ∀ (l : List (Array Nat)) (acc : Array Nat), c ∈ (l.foldl (· ++ ·) acc).toList → c ∈ acc.toList ∨ ∃ a ∈ l, c ∈ a.toList
  | [], acc, h => .inl h
  | a :: l, acc, h => by
    rcases fold_mem l (acc ++ a) h with h | ⟨b, hb, hc⟩
    · rw [Array.toList_append, List.mem_append] at h
      exact h.imp (fun z => z) fun z => ⟨a, List.mem_cons_self, z⟩
    · exact .inr ⟨b, List.mem_cons_of_mem _ hb, hc⟩
theorem asc_mul {z : Str} {n : Int} (h : Asc z) : Asc (Txt.mul z n) := fun c hc => by
  unfold Txt.mul at hc
  split at hc
  · exact nomatch hc
  · split at hc
    · exact h c hc
    · rcases fold_mem _ _ hc with z | ⟨a, ha, hz⟩
      · exact nomatch z
      · have := List.eq_of_mem_replicate ha
        rw [this] at hz
        exact h c hz
theorem szA {i j : Str} (h : i.length ≤ 10000) (k : j.length ≤ 10000) : i.length + j.length ≤ sizeLine := sz5 (by omega)
theorem same_mut {H H' : Hp} {p : Addr} {o : HO} (s : Same H H') (h : H p = none) : Same H (upd H' p o) := fun b x e => by
  rw [upd_ne (ne_of_none e h)]
  exact s b x e
/-- a short text of small signs -/
def Okt (v : V) : Prop := ∃ z : Str, v = .str z ∧ z.length ≤ 6200 ∧ Asc z
theorem okt {z : Str} (h : ascB z = true) (hl : decide (z.length ≤ 6200) = true) : Okt (.str z) := ⟨z, rfl, of_decide_eq_true hl, asc_of h⟩
theorem okt_app {a b : Str} (h1 : a.length + b.length ≤ 6200) (h : Asc a) (k : Asc b) : Okt (.str (a ++ b)) := ⟨_, rfl, by rw [len_app]; exact h1, asc_app h k⟩
/-- a list of such texts that is one's own -/
structure Bag (H0 H : Hp) (p : Addr) (n : Nat) : Prop where
  same : Same H0 H
  new : H0 p = none
  ex : ∃ xs : List V, H p = some (.lst xs) ∧ xs.length = n ∧ ∀ v ∈ xs, Okt v
theorem Bag.app {H0 H : Hp} {p : Addr} {n : Nat} {xs zs : List V} (B : Bag H0 H p n) (h : H p = some (.lst xs)) (hz : ∀ v ∈ zs, Okt v) : Bag H0 (upd H p (.lst (xs ++ zs))) p (n + zs.length) := by
  obtain ⟨s, nw, ys, e, l, o⟩ := B
  rw [h] at e
  cases e
  refine ⟨same_mut s nw, nw, _, upd_same, by rw [List.length_append, l], fun v hv => ?_⟩
  rcases List.mem_append.mp hv with hv | hv
  · exact o v hv
  · exact hz v hv
theorem Bag.go {H0 H H' : Hp} {p : Addr} {n : Nat} (B : Bag H0 H p n) (s : Same H H') : Bag H0 H' p n := by
  obtain ⟨s0, nw, ys, e, l, o⟩ := B
  exact ⟨s0.trans s, nw, ys, s _ _ e, l, o⟩
theorem Bag.back {H0 H : Hp} {p b : Addr} {n : Nat} (B : Bag H0 H p n) (h : H b = none) : p ≠ b := by
  obtain ⟨s0, nw, ys, e, l, o⟩ := B
  exact ne_of_none e h
theorem okt1 {v : V} (h : Okt v) : ∀ x ∈ [v], Okt x := fun x hx => by
  have : x = v := by simpa using hx
  rw [this]; exact h
def sp_bent : Sp := fun vs H Q _ => ∃ (st g l : Addr) (z : Str), vs = [.ref st, .str z] ∧ z.length ≤ 1000 ∧ Asc z ∧ StAt H st g l ∧ ∀ (z' : Str) H', z'.length ≤ 6200 → Asc z' → StAt H' st g l → Kp st g l H H' → Q (.str z') H'
def sp_beyond : Sp := fun vs H Q _ => ∃ (st g l : Addr), vs = [.ref st] ∧ StAt H st g l ∧ ∀ (z' : Str) H', z'.length ≤ 6200 → Asc z' → StAt H' st g l → Kp st g l H H' → Q (.str z') H'
end Up

namespace Ve
open PySem PySem.Spec PyProof.Rows L2 Ub Ur Ug Ue Up
/-! ### paths of a tree -/
def down (w p : Str) : Str := ("." : Str) ++ w ++ (if p = "." then ("" : Str) else p)
def fp : Tr → List (Str × Tr)
  | .nil => []
  | .cons w t r => ((("." : Str), t) :: fp t).map (fun m => (down w m.1, m.2)) ++ fp r
def paths (t : Tr) : List (Str × Tr) := (("." : Str), t) :: fp t
def gp : Sg → List (Str × Addr × Sg)
  | .nil => []
  | .cons w p s r => ((("." : Str), p, s) :: gp s).map (fun m => (down w m.1, m.2)) ++ gp r
def gpaths (x : Addr) (g : Sg) : List (Str × Addr × Sg) := (("." : Str), x, g) :: gp g
theorem gp_tr : ∀ g : Sg, (gp g).map (fun m => (m.1, m.2.2.tr)) = fp g.tr
  | .nil => rfl
  | .cons w p s r => by
    show (((("." : Str), p, s) :: gp s).map (fun m => (down w m.1, m.2)) ++ gp r).map _ = ((("." : Str), s.tr) :: fp s.tr).map _ ++ fp r.tr
    rw [List.map_append, gp_tr r, ← gp_tr s, List.map_cons, List.map_cons, List.map_cons, List.map_map, List.map_map]
    rfl
theorem gpaths_tr (x : Addr) (g : Sg) : (gpaths x g).map (fun m => (m.1, m.2.2.tr)) = paths g.tr := by
  show _ :: (gp g).map _ = _
  rw [gp_tr]
  rfl
theorem mul01 (p : Str) : Txt.mul p (if p = "." then 0 else 1) = (if p = "." then ("" : Str) else p) := by
  by_cases h : p = "."
  · rw [if_pos h, if_pos h, h]
    decide +kernel
  · rw [if_neg h, if_neg h]
    unfold Txt.mul
    simp
theorem ext_down (w p : Str) : Sg.ext w (.inr p) = .inr (down w p) := by
  show Sum.inr (("." : Str) ++ w ++ Txt.mul p (if p = "." then 0 else 1)) = _
  rw [mul01]
  rfl

theorem cs_down (w p : Str) : cs (down w p) = 46 :: (cs w ++ (if p = "." then [] else cs p)) := by
  unfold down
  rw [cs_app, cs_app, cs_dot]
  by_cases h : p = "."
  · rw [if_pos h, if_pos h]
    show [46] ++ cs w ++ [] = _
    simp
  · rw [if_neg h, if_neg h]
    simp
/-- a path begins with a dot -/
def Dot (p : Str) : Prop := ∃ r, cs p = 46 :: r
theorem dot_down (w p : Str) : Dot (down w p) := ⟨_, cs_down w p⟩
theorem dot_dot : Dot "." := ⟨[], cs_dot⟩
theorem fp_dot : ∀ t : Tr, ∀ m ∈ fp t, Dot m.1
  | .nil, m, h => nomatch h
  | .cons w t r, m, h => by
    rcases List.mem_append.mp h with h | h
    · obtain ⟨m', _, rfl⟩ := List.mem_map.mp h
      exact dot_down _ _
    · exact fp_dot r m h
theorem let_dot : isLet 46 = false := by decide +kernel
theorem tw_split {l r : List Nat} (h : ∀ c ∈ l, isLet c = true) (hr : r = [] ∨ ∃ q, r = 46 :: q) : (l ++ r).takeWhile isLet = l ∧ (l ++ r).drop l.length = r := by
  refine ⟨?_, by simp⟩
  induction l with
  | nil =>
    rcases hr with rfl | ⟨q, rfl⟩
    · rfl
    · show (46 :: q).takeWhile isLet = []
      rw [List.takeWhile_cons, let_dot]
      rfl
  | cons a l ih =>
    show ((a :: (l ++ r)).takeWhile isLet) = _
    rw [List.takeWhile_cons, h a (List.mem_cons_self ..), if_pos rfl, ih fun c hc => h c (List.mem_cons_of_mem _ hc)]
theorem down_inj {w w' p p' : Str} (hw : isWord w = true) (hw' : isWord w' = true) (hp : Dot p) (hp' : Dot p') (h : down w p = down w' p') : w = w' ∧ p = p' := by
  have e : cs (down w p) = cs (down w' p') := by rw [h]
  rw [cs_down, cs_down] at e
  injection e with _ e
  have tl : ∀ {p : Str}, Dot p → (if p = "." then [] else cs p) = [] ∨ ∃ q, (if p = "." then [] else cs p) = 46 :: q := fun {p} hp => by
    by_cases c : p = "."
    · rw [if_pos c]; exact .inl rfl
    · rw [if_neg c]; exact .inr hp
  obtain ⟨a1, a2⟩ := tw_split (isWord_low hw) (tl hp)
  obtain ⟨b1, b2⟩ := tw_split (isWord_low hw') (tl hp')
  have ew : cs w = cs w' := by rw [← a1, e, b1]
  refine ⟨cs_inj ew, ?_⟩
  have er : (if p = "." then [] else cs p) = (if p' = "." then [] else cs p') := by rw [← a2, e, ew, b2]
  by_cases c : p = "."
  · by_cases c' : p' = "."
    · rw [c, c']
    · rw [if_pos c, if_neg c'] at er
      obtain ⟨r, hr⟩ := hp'
      rw [hr] at er
      cases er
  · by_cases c' : p' = "."
    · rw [if_neg c, if_pos c'] at er
      obtain ⟨r, hr⟩ := hp
      rw [hr] at er
      cases er
    · rw [if_neg c, if_neg c'] at er
      exact cs_inj er
theorem down_ne {w p : Str} (hw : isWord w = true) : down w p ≠ "." := fun h => by
  have e : cs (down w p) = cs (".": Str) := by rw [h]
  rw [cs_down, cs_dot] at e
  injection e with _ e
  have : cs w = [] := (List.append_eq_nil_iff.mp e).1
  have l : w.length = 0 := by rw [← cs_len, this]; rfl
  have := (isWord_iff.mp hw).1
  omega
/-! ### words of a tree -/
def W : Tr → Prop
  | .nil => True
  | .cons w t r => isWord w = true ∧ w ∉ r.fields.map (·.1) ∧ W t ∧ W r
theorem fineF_W {p : Tr → Prop} (hp : ∀ t, p t → W t) : ∀ {n : Nat} {kn : List Str} {t : Tr}, FineF p n kn t → W t
  | 0, _, _, hf => hf.elim
  | _ + 1, _, .nil, hf => hf.elim
  | n + 1, kn, .cons w t r, hf => by
    have hn := (fineF_fields hf).2
    obtain ⟨h1, h2, h3, h4⟩ := hf
    refine ⟨h1, ?_, hp t h3, ?_⟩
    · have e : (Tr.cons w t r).fields.map (·.1) = w :: r.fields.map (·.1) := rfl
      rw [e, List.nodup_cons] at hn
      exact hn.1
    · rcases h4 with rfl | h4
      · trivial
      · exact fineF_W hp h4
theorem fine_W : ∀ {f : Nat} {t : Tr}, Fine f t → W t
  | 0, t, h => by
    have e : t = .nil := h
    rw [e]
    trivial
  | f + 1, t, h => by
    rcases h with e | h
    · rw [e]; trivial
    · exact fineF_W (fun _ => fine_W) h
theorem good_W {t : Tr} (h : good t) : W t := fine_W h.1
/-- every path of the fields begins with one of their words -/
theorem fp_head : ∀ {t : Tr}, ∀ m ∈ fp t, ∃ w ∈ t.fields.map (·.1), ∃ p, Dot p ∧ m.1 = down w p
  | .nil, m, h => nomatch h
  | .cons w t r, m, h => by
    rcases List.mem_append.mp h with h | h
    · obtain ⟨m', hm, rfl⟩ := List.mem_map.mp h
      refine ⟨w, List.mem_cons_self .., m'.1, ?_, rfl⟩
      rcases List.mem_cons.mp hm with e | hm
      · rw [e]; exact dot_dot
      · exact fp_dot t _ hm
    · obtain ⟨w', hw, p, hp, e⟩ := fp_head m h
      exact ⟨w', List.mem_cons_of_mem _ hw, p, hp, e⟩
theorem W.word : ∀ {t : Tr}, W t → ∀ w ∈ t.fields.map (·.1), isWord w = true
  | .nil, _, w, h => nomatch h
  | .cons w0 t r, ⟨a, _, _, d⟩, w, h => by
    rcases List.mem_cons.mp h with e | h
    · rw [e]; exact a
    · exact W.word d w h
theorem dot_fresh {t : Tr} (h : W t) : ("." : Str) ∉ (fp t).map (·.1) := fun z => by
  obtain ⟨m, hm, e⟩ := List.mem_map.mp z
  obtain ⟨w, hw, p, _, e2⟩ := fp_head m hm
  exact down_ne (h.word w hw) (e2.symm.trans e)
theorem nodup_down {w : Str} (hw : isWord w = true) : ∀ {l : List Str}, (∀ p ∈ l, Dot p) → l.Nodup → (l.map (down w)).Nodup
  | [], _, _ => List.nodup_nil
  | p :: l, hd, hn => by
    obtain ⟨h1, h2⟩ := List.nodup_cons.mp hn
    refine List.nodup_cons.mpr ⟨fun z => ?_, nodup_down hw (fun q hq => hd q (List.mem_cons_of_mem _ hq)) h2⟩
    obtain ⟨q, hq, e⟩ := List.mem_map.mp z
    obtain ⟨_, e⟩ := down_inj hw hw (hd q (List.mem_cons_of_mem _ hq)) (hd p (List.mem_cons_self ..)) e
    rw [← e] at h1
    exact h1 hq
theorem fp_nodup : ∀ {t : Tr}, W t → ((fp t).map (·.1)).Nodup
  | .nil, _ => List.nodup_nil
  | .cons w t r, ⟨a, b, c, d⟩ => by
    have e : (fp (.cons w t r)).map (·.1) = ((("." : Str) :: (fp t).map (·.1)).map (down w)) ++ (fp r).map (·.1) := by
      show (((("." : Str), t) :: fp t).map (fun m => (down w m.1, m.2)) ++ fp r).map (·.1) = _
      rw [List.map_append, List.map_map, List.map_cons, List.map_cons, List.map_map]
      rfl
    rw [e]
    have dt : ∀ p ∈ ("." : Str) :: (fp t).map (·.1), Dot p := fun p hp => by
      rcases List.mem_cons.mp hp with e | hp
      · rw [e]; exact dot_dot
      · obtain ⟨m, hm, rfl⟩ := List.mem_map.mp hp
        exact fp_dot t m hm
    refine List.nodup_append.mpr ⟨nodup_down a dt (List.nodup_cons.mpr ⟨dot_fresh c, fp_nodup c⟩), fp_nodup d, fun p hp q hq e2 => ?_⟩
    obtain ⟨p', hp', rfl⟩ := List.mem_map.mp hp
    obtain ⟨m, hm, rfl⟩ := List.mem_map.mp hq
    obtain ⟨w', hw', q', hq', e3⟩ := fp_head m hm
    obtain ⟨e4, _⟩ := down_inj a (d.word w' hw') (dt p' hp') hq' (e2.trans e3)
    rw [e4] at b
    exact b hw'
theorem paths_nodup {t : Tr} (h : W t) : ((paths t).map (·.1)).Nodup := List.nodup_cons.mpr ⟨dot_fresh h, fp_nodup h⟩
/-! ### the spots -/
def ent (m : Str × Addr × Sg) : Key × V := (.inr m.1, .ref m.2.1)
theorem put_fresh {kvs : List (Key × V)} {k : Key} {v : V} (h : k ∉ kvs.map (·.1)) : putK kvs k v = kvs ++ [(k, v)] := by
  unfold putK
  rw [if_neg]
  intro z
  obtain ⟨kv, h1, h2⟩ := List.any_eq_true.mp z
  exact h (List.mem_map.mpr ⟨kv, h1, of_decide_eq_true h2⟩)
theorem fold_fresh {w : Str} : ∀ {l : List (Str × Addr × Sg)} {acc : List (Key × V)}, (acc.map (·.1) ++ l.map fun m => (Sum.inr (down w m.1) : Key)).Nodup →
    (l.map ent).foldl (fun a kv => putK a (Sg.ext w kv.1) kv.2) acc = acc ++ (l.map fun m => (down w m.1, m.2)).map ent
  | [], acc, _ => by simp
  | m :: l, acc, h => by
    have h' : (acc.map (·.1) ++ ((Sum.inr (down w m.1) : Key) :: l.map fun m => (Sum.inr (down w m.1) : Key))).Nodup := h
    have hf : (Sum.inr (down w m.1) : Key) ∉ acc.map (·.1) := fun z => (List.nodup_append.mp h').2.2 _ z _ (List.mem_cons_self ..) rfl
    show (l.map ent).foldl _ (putK acc (Sg.ext w (.inr m.1)) (.ref m.2.1)) = _
    rw [ext_down, put_fresh hf, fold_fresh (w := w) (l := l) (acc := acc ++ [(Sum.inr (down w m.1), V.ref m.2.1)])]
    · simp [ent]
    · rw [List.map_append, List.append_assoc]
      exact h'
theorem inr_nodup : ∀ {l : List Str}, l.Nodup → (l.map fun p => (Sum.inr p : Key)).Nodup
  | [], _ => List.nodup_nil
  | p :: l, h => by
    obtain ⟨a, b⟩ := List.nodup_cons.mp h
    refine List.nodup_cons.mpr ⟨fun z => ?_, inr_nodup b⟩
    obtain ⟨q, hq, e⟩ := List.mem_map.mp z
    rw [Sum.inr.inj e] at hq
    exact a hq
theorem gp_keys (g : Sg) : (gp g).map (·.1) = (fp g.tr).map (·.1) := by
  rw [← gp_tr, List.map_map]
  rfl
theorem puts_eq : ∀ {g : Sg} {acc : List (Key × V)}, W g.tr → (acc.map (·.1) ++ ((gp g).map fun m => (Sum.inr m.1 : Key))).Nodup → g.puts acc = acc ++ (gp g).map ent
  | .nil, acc, _, _ => by show acc = acc ++ []; simp
  | .cons w p s r, acc, h, hn => by
    obtain ⟨a, b, c, d⟩ := h
    have e1 : gp (.cons w p s r) = (gpaths p s).map (fun m => (down w m.1, m.2)) ++ gp r := rfl
    have hs : s.puts [(.inr ".", .ref p)] = (gpaths p s).map ent := by
      rw [puts_eq (g := s) c]
      · rfl
      · have := inr_nodup (paths_nodup c)
        have e : (paths s.tr).map (·.1) = ("." : Str) :: (gp s).map (·.1) := by rw [gp_keys]; rfl
        rw [e] at this
        have e2 : ((gp s).map fun m => (Sum.inr m.1 : Key)) = ((gp s).map (·.1)).map fun p => (Sum.inr p : Key) := by rw [List.map_map]; rfl
        rw [e2]
        exact this
    show r.puts ((s.puts [(.inr ".", .ref p)]).foldl (fun a kv => putK a (Sg.ext w kv.1) kv.2) acc) = _
    rw [e1, List.map_append, ← List.append_assoc] at hn
    have h1 := (List.nodup_append.mp hn).1
    rw [List.map_map] at h1
    rw [hs, fold_fresh h1, puts_eq d]
    · rw [e1, List.map_append, List.append_assoc]
    · rw [List.map_append]
      have e3 : List.map (·.1) (((gpaths p s).map fun m => (down w m.1, m.2)).map ent) = ((gpaths p s).map fun m => (down w m.1, m.2)).map fun m => (Sum.inr m.1 : Key) := by rw [List.map_map]; rfl
      rw [e3]
      exact hn
theorem spots_eq {g : Sg} (x : Addr) (h : W g.tr) : g.spots x = (gpaths x g).map ent := by
  show g.puts [(.inr ".", .ref x)] = _
  rw [puts_eq h]
  · rfl
  · have := inr_nodup (paths_nodup h)
    have e : (paths g.tr).map (·.1) = ("." : Str) :: (gp g).map (·.1) := by rw [gp_keys]; rfl
    rw [e] at this
    have e2 : ((gp g).map fun m => (Sum.inr m.1 : Key)) = ((gp g).map (·.1)).map fun p => (Sum.inr p : Key) := by rw [List.map_map]; rfl
    rw [e2]
    exact this
theorem gpaths_keys (x : Addr) (g : Sg) : (gpaths x g).map (·.1) = (paths g.tr).map (·.1) := by
  rw [← gpaths_tr x, List.map_map]
  rfl
theorem val_at : ∀ {l : List (Str × Addr × Sg)}, (l.map (·.1)).Nodup → ∀ m ∈ l, valV (l.map ent) (.inr m.1) = some (.ref m.2.1)
  | [], _, m, h => nomatch h
  | m0 :: l, hn, m, h => by
    obtain ⟨a, b⟩ := List.nodup_cons.mp hn
    rcases List.mem_cons.mp h with e | h
    · rw [e]; exact valV_pos rfl
    · rw [List.map_cons, valV_neg, val_at b m h]
      intro z
      exact a (List.mem_map.mpr ⟨m, h, (Sum.inr.inj z).symm⟩)
theorem val_no {p : Str} : ∀ {l : List (Str × Addr × Sg)}, p ∉ l.map (·.1) → valV (l.map ent) (.inr p) = none
  | [], _ => rfl
  | m0 :: l, h => by
    rw [List.map_cons, List.mem_cons, not_or] at h
    rw [List.map_cons, valV_neg (fun z => h.1 (Sum.inr.inj z).symm), val_no h.2]
theorem sh_at {Z : Addr → Prop} {C : Addr} {H : Hp} : ∀ {g : Sg}, ShL Z C H g → ∀ m ∈ gp g, ShG Z C H m.2.1 m.2.2
  | .nil, _, m, h => nomatch h
  | .cons w p s r, ⟨a, b, c⟩, m, h => by
    rcases List.mem_append.mp h with h | h
    · obtain ⟨m', hm, rfl⟩ := List.mem_map.mp h
      rcases List.mem_cons.mp hm with e | hm
      · rw [e]; exact ⟨a, b⟩
      · exact sh_at b m' hm
    · exact sh_at c m h
theorem shg_at {Z : Addr → Prop} {C : Addr} {H : Hp} {x : Addr} {g : Sg} (h : ShG Z C H x g) : ∀ m ∈ gpaths x g, ShG Z C H m.2.1 m.2.2 := fun m hm => by
  rcases List.mem_cons.mp hm with e | hm
  · rw [e]; exact h
  · exact sh_at h.2 m hm
/-! ### what stands at a path is good -/
theorem fp_mem : ∀ {t : Tr}, ∀ m ∈ fp t, ∃ f ∈ t.fields, ∃ m' ∈ paths f.2, m = (down f.1 m'.1, m'.2)
  | .nil, m, h => nomatch h
  | .cons w t r, m, h => by
    rcases List.mem_append.mp h with h | h
    · obtain ⟨m', hm, rfl⟩ := List.mem_map.mp h
      exact ⟨(w, t), List.mem_cons_self .., m', hm, rfl⟩
    · obtain ⟨f, hf, m', hm, e⟩ := fp_mem m h
      exact ⟨f, List.mem_cons_of_mem _ hf, m', hm, e⟩
structure PGood (d : Nat) (m : Str × Tr) : Prop where
  g : good m.2
  dp : m.2.depth ≤ d
  l : m.1.length ≤ 9 * d + 1
  a : Asc m.1
theorem paths_good : ∀ (n : Nat) {t : Tr}, t.depth ≤ n → good t → ∀ m ∈ paths t, PGood n m := by
  intro n
  have base : ∀ {t : Tr} {n : Nat}, t.depth ≤ n → good t → PGood n (("." : Str), t) := fun hd hg => ⟨hg, hd, by show (("." : Str)).length ≤ _; rw [dot_len]; omega, (show Asc ("." : Str) from asc_of (by decide +kernel))⟩
  induction n with
  | zero =>
    intro t hd hg m hm
    rcases List.mem_cons.mp hm with e | hm
    · rw [e]; exact base hd hg
    · obtain ⟨f, hf, _⟩ := fp_mem m hm
      have := Tr.depth_lt hf
      omega
  | succ n ih =>
    intro t hd hg m hm
    rcases List.mem_cons.mp hm with e | hm
    · rw [e]; exact base hd hg
    · obtain ⟨f, hf, m', hm', rfl⟩ := fp_mem m hm
      have hl := Tr.depth_lt hf
      obtain ⟨gf, gw⟩ := (good_fields hg).1 f hf
      obtain ⟨a, b, c, d⟩ := ih (t := f.2) (by omega) gf m' hm'
      have l8 := (isWord_iff.mp gw).2.1
      refine ⟨a, (show m'.2.depth ≤ n + 1 by omega), ?_, ?_⟩
      · show (down f.1 m'.1).length ≤ _
        unfold down
        rw [len_app, len_app, dot_len]
        split
        · show 1 + f.1.length + 0 ≤ _
          omega
        · omega
      · show Asc (down f.1 m'.1)
        unfold down
        refine asc_app (asc_app (asc_of (by decide +kernel)) (word_asc gw)) ?_
        split
        · exact asc_of (by decide +kernel)
        · exact d
end Ve

namespace Va
open PySem PySem.Spec PyProof.Rows L2 GenW Ub Ur Ug Ue Up
/-! ### a generator that hands out the keys of a dict -/
def pr (L I d : Addr) (n : Nat) (F : Nat → Value → Prop) : Protocol := fun m s₀ v s kap =>
  (∃ i, i + m + 1 = n ∧ F i v) ∧ GenSince L [I] s₀ s ∧ (∀ s'' : Shared, (∀ b, b = L ∨ b = I ∨ b = d → ∀ o, s.heap.get? b = some o → s''.heap.get? b = some o) → kap (.send .none) s'')
abbrev fin (L I : Addr) : GenEnd := fun n s₀ r s₁ => ((r = .ok (.ret .none) ∨ r = .ok .next) ∧ (n = 0 ∧ GenSince L [I] s₀ s₁)) ∨ ∃ e, r = .error e ∧ False
abbrev keyAt (kvs : List (Key × Value)) (j : Nat) (v : Value) : Prop := ∃ k y, kvs[j]? = some (k, y) ∧ keyIs k v = true
abbrev yb (x : Str) (p1 p2 p3 : Pos) : List Stmt := [.Expr (.Yield (some (.Name x p1)) p2) p3]
section
variable {prog : Program} {w : World} {A : Around}
theorem seg_fl {x : Str} {px p1 p2 p3 p : Pos} {env : Env} {I d : Addr} {kvs : List (Key × Value)} {ep : Nat} {body : List Stmt} {kk : Result → Sem PySem.Fin} (hh : A.handled = none)
    (hk : env.scope.kind = .function) (hx : env.kindOf x = some .local) (hco : env.scope.isCoroutine = false) (hi : interactive env = false) (hdb : (x == ("__debug__" : Str)) = false)
    (hp : (env.scope.kind == .class || (env.scope.kind == .module && env.locals != env.globals)) = false)
    (hLI : env.locals ≠ I) (hLd : env.locals ≠ d) (hdI : d ≠ I) (hkk : kk (.ok .next) = .pure (.done (.ret .none))) :
    ∀ (k i : Nat) (s₀ s : Shared) (m : Str → Option Value), kvs.length - i = k → i ≤ kvs.length → s.heap.IsKeyIter I d i kvs.length ep → s.heap.DictAt (mixKind prog w) d kvs ep → s.heap.Ns env.locals m → GenSince env.locals [I] s₀ s →
      Seg (model prog w) A (fin env.locals I) (pr env.locals I d kvs.length (keyAt kvs)) k s₀ (.forLoop (.Name x px) (.ref I) (yb x p1 p2 p3) [] env) ((model prog w).den (.forLoop (.Name x px) (.ref I) (yb x p1 p2 p3) [] env))
        [.ret kk none false [] (.func body env) p []] s := by
  intro k
  have hh' : (A.over (.forLoop (.Name x px) (.ref I) (yb x p1 p2 p3) [] env) [.ret kk none false [] (.func body env) p []]).handled = none := hh
  induction k with
  | zero =>
    intro i s₀ s m hk0 hi0 hit hd hn hsince
    have hin : i = kvs.length := by omega
    subst hin
    show Seg _ A _ _ _ s₀ _ ((forTurn (.Name x px) (.ref I) (yb x p1 p2 p3) [] env).onRaise (fun e => do noteFrame e env; theTreesLotGoes e)) _ s
    unfold forTurn
    rw [Sem.onRaise_eq_wrap]
    refine seg_bind_wrap (wpAny_standAt ?_)
    refine seg_bind_wrap (wpAny_onRaise ((Walks.dictKeys hh' I d hdI kvs ep).done s _ _ ⟨hit, hd⟩ fun h' tk hk' => ?_))
    refine seg_again rfl ?_
    refine seg_leaf (.ok .next) ?_
    rw [hkk]
    exact seg_end (.ok (.ret .none)) (.inl ⟨.inl rfl, rfl, hsince.step fun b o _ hb e => hk' b o hb e⟩)
  | succ k ih =>
    intro i s₀ s m hk0 hi0 hit hd hn hsince
    have hlt : i < kvs.length := by omega
    show Seg _ A _ _ _ s₀ _ ((forTurn (.Name x px) (.ref I) (yb x p1 p2 p3) [] env).onRaise (fun e => do noteFrame e env; theTreesLotGoes e)) _ s
    unfold forTurn
    rw [Sem.onRaise_eq_wrap]
    refine seg_bind_wrap (wpAny_standAt ?_)
    refine seg_bind_wrap (wpAny_onRaise ((Walks.dictKeys hh' I d hdI kvs ep).item i s _ _ hlt ⟨hit, hd⟩ fun v h₁ tk₁ hPv hst₁ hk₁ => ?_))
    refine seg_bind_wrap (wpAny_of_eq (rfl : letOwnedTupleGo (.Name x px) (.ref I) v = pure ()) ?_)
    refine seg_bind_wrap (wpAny_assign_Name (wpAny_storeName_local hx (hn.at' fun o e => hk₁ _ o (fun z => hLI (List.mem_singleton.mp z)) e) (fun h₂ hn₂ hs₂ => ?_) hp))
    have up₂ : ∀ b o, b ≠ env.locals → b ∉ [I] → s.heap.get? b = some o → h₂.get? b = some o := fun b o hbC hbw e => hs₂.extBut b o hbC (hk₁ b o hbw e)
    have hit₂ : h₂.IsKeyIter I d (i + 1) kvs.length ep := hst₁.1.at fun o e => hs₂.extBut I o (Ne.symm hLI) e
    have hd₂ : h₂.DictAt (mixKind prog w) d kvs ep := hst₁.2.at' fun o e => hs₂.extBut d o (Ne.symm hLd) e
    have sin₂ : GenSince env.locals [I] s₀ { s with heap := h₂, toks := tk₁ + 1 } := hsince.step fun b o hb hw e => up₂ b o hb hw e
    rw [Sem.bind_eq_wrap', Sem.wrap_wrap]
    refine seg_execs_cons ?_
    refine seg_Expr_Yield rfl rfl rfl ?_ hco hi
    refine wpAny_Name (wpAny_loadName_local (v := v) hk hx hn₂ (by simp) ?_) hdb
    intro kap hkap
    refine ⟨⟨i, by omega, hPv⟩, ?_, fun s'' hal => hkap .none s'' ?_⟩
    · exact sin₂
    · refine seg_execs_nil ?_
      refine seg_again rfl (ih (i + 1) s'' s'' _ (by omega) hlt (hit₂.at fun o e => hal I (.inr (.inl rfl)) o e) (hd₂.at' fun o e => hal d (.inr (.inr rfl)) o e) (hn₂.at' fun o e => hal _ (.inl rfl) o e) (GenSince.refl _ _ _))

theorem seg_keys {K : PySem.W.Frag} {self f x : Str} {px p0 p1 p2 p3 p4 p5 : Pos} {env : Env} {a dx C d : Addr} {mA : Str → Option Value} {kvs : List (Key × Value)} {ep : Nat} {s : Shared} {m : Str → Option Value} (hh : A.handled = none)
    (hk : env.scope.kind = .function) (hx : env.kindOf x = some .local) (hself : env.kindOf self = some .local) (hco : env.scope.isCoroutine = false) (hi : interactive env = false) (hdb : (x == ("__debug__" : Str)) = false) (hds : (self == ("__debug__" : Str)) = false)
    (hp : (env.scope.kind == .class || (env.scope.kind == .module && env.locals != env.globals)) = false)
    (hb : attributeBase (.Name self p0) f env (eval (.Name self p0) env) = eval (.Name self p0) env)
    (hs : ∀ v, foldedSetIterable (.Attribute (.Name self p0) f p4) env v = pure v)
    (kin : K.In s.heap) (O : ObjM s.heap a dx C mA) (c : Cls K C) (n : NoAttr K C f) (hf : mA f = some (.ref d)) (hsys : (d == sysModules) = false) (hd : s.heap.DictAt (mixKind prog w) d kvs ep)
    (hn : s.heap.Ns env.locals m) (hm : m self = some (.ref a)) (hLd : env.locals ≠ d) :
    Seg (model prog w) A (fin env.locals s.heap.objs.size) (pr env.locals s.heap.objs.size d kvs.length (keyAt kvs)) kvs.length s (.func [.For (.Name x px) (.Attribute (.Name self p0) f p4) (yb x p1 p2 p3) [] p5] env)
      ((model prog w).den (.func [.For (.Name x px) (.Attribute (.Name self p0) f p4) (yb x p1 p2 p3) [] p5] env)) [] s := by
  refine seg_func (seg_execs_cons ?_)
  rw [arm_exec_For]
  refine seg_bind_wrap (wpAny_standAt ?_)
  refine seg_bind_wrap (attr_of hb (wpAny_Name (wpAny_loadName_local hk hself hn hm ?_) hds))
  refine get_map (s := s) kin O (c.get f) c.hd n hf rfl ?_
  refine seg_bind_wrap (wpAny_of_eq (hs _) ?_)
  refine seg_bind_wrap (wpAny_standAt ?_)
  refine seg_bind_wrap (wpAny_holding (wpAny_pyIter_dict (knd := mixKind prog w) hsys hd ?_))
  have lL : env.locals < s.heap.objs.size := hn.lt
  have ld : d < s.heap.objs.size := hd.lt_size
  refine seg_call fun p => ?_
  refine seg_fl hh hk hx hco hi hdb hp (Nat.ne_of_lt lL) hLd (Nat.ne_of_lt ld) rfl kvs.length 0 s _ m (Nat.sub_zero _) (Nat.zero_le _) ⟨_, Heap.get?_push_size _ rfl, rfl, rfl⟩ (hd.push _) (hn.push _) ?_
  exact ⟨_, _, rfl, fun b o _ _ e => Heap.get?_push_of_some _ e⟩
end
end Va

namespace Va
open PySem PySem.Spec PyProof.Rows L2 GenW Ub Ur Ug Ue Up
abbrev keysV {α : Type} (kvs : List (Key × α)) : List V := kvs.map fun kv => kV kv.1
/-- between two turns of the comprehension -/
def LI (prog : Program) (w : World) (A : Around) (os0 : OsState) (h1 : Heap) (L ga : Addr) (gn : Nat) (d D C : Addr) (kvs : List (Key × Value)) (n : Nat) (s : Shared) : Prop :=
  ∃ i acc c m gs I, n = kvs.length - i ∧ i ≤ kvs.length ∧ s.os = os0 ∧ AllBare s.gens ∧ (∀ b o, h1.get? b = some o → s.heap.get? b = some o) ∧ s.heap.get? D = some (lstObj acc c) ∧ Vals (keysV (kvs.take i)) acc.toList ∧
    s.heap.Ns C m ∧ s.heap.IsGen ga gn ∧ s.gens[gn]? = some gs ∧ (I ≠ D ∧ I ≠ C ∧ I ≠ ga ∧ h1.objs.size ≤ I) ∧
    gs.Goes (model prog w) A.in1 (fin L I) (pr L I d kvs.length (keyAt kvs)) (kvs.length - i) (.send .none) (s.setGen gn .running)
section
variable {prog : Program} {w : World} {A : Around}
theorem loop_keys {R : Result → Shared → Prop} {y : Str} {p1 p2 pos : Pos} {iter : Expr} {scope : Scope} {ce : Env} {os0 : OsState} {h1 : Heap} {L ga : Addr} {gn : Nat} {d D : Addr} {kvs : List (Key × Value)} (hh : A.handled = none) (hroom : A.depth < recursionLimit)
    (hk : ce.scope.kind = .function) (hy : ce.kindOf y = some .local) (hdb : (y == ("__debug__" : Str)) = false) (hp : (ce.scope.kind == .class || (ce.scope.kind == .module && ce.locals != ce.globals)) = false) (hl1 : h1.NoLimit)
    (bL : h1.objs.size ≤ L) (bg : h1.objs.size ≤ ga) (bD : h1.objs.size ≤ D) (bC : h1.objs.size ≤ ce.locals) (ld : d < h1.objs.size) (nLD : L ≠ D) (nLC : L ≠ ce.locals) (ngD : ga ≠ D) (ngC : ga ≠ ce.locals) (nDC : D ≠ ce.locals) (nLg : L ≠ ga) (hlen : kvs.length ≤ sizeLine)
    (hR : ∀ s' acc c m, s'.os = os0 → AllBare s'.gens → (∀ b o, h1.get? b = some o → s'.heap.get? b = some o) → s'.heap.get? D = some (lstObj acc c) → Vals (keysV kvs) acc.toList → s'.heap.Ns ce.locals m → R (.ok .next) s')
    (n : Nat) (s : Shared) (h : LI prog w A os0 h1 L ga gn d D ce.locals kvs n s) :
    codeAny (model prog w) A (.compLoop (.ListComp (.Name y p1) [⟨.Name y p2, iter, [], 0⟩] scope pos) 0 (.ref ga) (.ref D) ce) R s := by
  refine compLoop_any (LI prog w A os0 h1 L ga gn d D ce.locals kvs) ?_ n h
  clear h s n
  rintro n s ⟨i, acc, c, m, gs, I, rfl, hi, hos, hba, hkp, hD, hv, hC, hg, hgs, ⟨i1, i2, i3, i4⟩, hgo⟩
  have lt1 : ∀ {b : Addr} {o : Obj}, h1.get? b = some o → ∀ {c : Addr}, h1.objs.size ≤ c → b ≠ c := fun {b o} e {c} hc => Nat.ne_of_lt (Nat.lt_of_lt_of_le (Heap.lt_size e) hc)
  by_cases hlt : i < kvs.length
  · obtain ⟨mm, hm⟩ : ∃ mm, kvs.length - i = mm + 1 := ⟨kvs.length - i - 1, by omega⟩
    rw [hm] at hgo
    refine next_genG (F := fun n s₀ s₁ => n = 0 ∧ GenSince L [I] s₀ s₁) (Er := fun _ _ => False) hh (hl1.keeps hkp) hroom hg hgs hgo (fun v s₁ gs' hb hv' => ?_) (fun s₁ hp' h' hk' => absurd hp'.1 (Nat.succ_ne_zero mm)) (fun e s₁ he => he.elim)
    obtain ⟨⟨j, hj, k, yv, hkv, hkey⟩, ⟨h₁, tk₁, rfl, hk₁⟩, hkap⟩ := hv'
    have ej : j = i := by omega
    subst ej
    have keep1 : ∀ b o, b ≠ L → b ≠ I → s.heap.get? b = some o → h₁.get? b = some o := fun b o x1 x2 e => hk₁ b o x1 (fun z => x2 (List.mem_singleton.mp z)) e
    refine wpAny_of_eq (rfl : letOwnedTupleGo (.Name y p2) (.ref ga) v = pure ()) ?_
    refine wpAny_assign_Name (wpAny_storeName_local hy (hC.at' fun o e => keep1 _ o (Ne.symm nLC) (Ne.symm i2) e) (fun h₂ hn₂ hs₂ => ?_) hp)
    refine wpAny_tests_nil ?_
    rw [if_pos rfl]
    refine wpAny_Name (wpAny_loadName_local (v := v) hk hy hn₂ (by simp) ?_) hdb
    have hD₂ : h₂.get? D = some (lstObj acc c) := hs₂.extBut D _ nDC (keep1 _ _ (Ne.symm nLD) (Ne.symm i1) hD)
    have hsz : acc.size ≤ sizeLine := by
      have e1 := hv.length
      have e2 : acc.toList.length = acc.size := by simp
      have e3 : (keysV (kvs.take j)).length = j := by rw [List.length_map, List.length_take]; omega
      omega
    refine append_at (hsz := hsz) hD₂ fun h₃ sb hD₃ => ?_
    have keep3 : ∀ b o, b ≠ D → b ≠ ce.locals → h₁.get? b = some o → h₃.get? b = some o := fun b o x1 x2 e => (sb.2 b x1).trans (hs₂.extBut b o x2 e)
    refine ⟨kvs.length - (j + 1), by omega, j + 1, acc.push v, c + 1, _, gs', I, rfl, hlt, hos, ?_, fun b o e => ?_, hD₃, ?_, hn₂.at' fun o e => (sb.2 _ (Ne.symm nDC)).trans e, ?_, ?_, ⟨i1, i2, i3, i4⟩, ?_⟩
    · exact allBare_setGen (s := { s with gens := (s.setGen gn .running).gens }) (allBare_setGen hba rfl) hb
    · exact keep3 b o (lt1 e bD) (lt1 e bC) (keep1 b o (lt1 e bL) (lt1 e i4) (hkp b o e))
    · rw [Array.toList_push]
      have e3 : keysV (kvs.take (j + 1)) = keysV (kvs.take j) ++ [kV k] := by
        show List.map _ _ = List.map _ _ ++ _
        rw [List.take_add_one, hkv, List.map_append]
        rfl
      rw [e3]
      exact hv.append (.cons (relV_key hkey) .nil)
    · obtain ⟨o, nm, qn, ho, r⟩ := hg
      exact ⟨o, nm, qn, keep3 _ _ ngD ngC (keep1 _ _ (Ne.symm nLg) (Ne.symm i3) ho), r⟩
    · exact setGen_self (gs := .running) (setGen_self hgs)
    · have e : kvs.length - (j + 1) = mm := by omega
      rw [e]
      refine hkap _ fun b hb' o e => ?_
      rcases hb' with rfl | rfl | rfl
      · exact keep3 _ _ nLD nLC e
      · exact keep3 _ _ i1 i2 e
      · exact keep3 _ _ (Nat.ne_of_lt (Nat.lt_of_lt_of_le ld bD)) (Nat.ne_of_lt (Nat.lt_of_lt_of_le ld bC)) e
  · have ei : i = kvs.length := by omega
    subst ei
    rw [Nat.sub_self] at hgo
    refine next_genG (F := fun n s₀ s₁ => n = 0 ∧ GenSince L [I] s₀ s₁) (Er := fun _ _ => False) hh (hl1.keeps hkp) hroom hg hgs hgo (fun v s₁ gs' hb hv' => ?_) (fun s₁ hp' h' hk' => ?_) (fun e s₁ he => he.elim)
    · obtain ⟨_, _, hkap⟩ := hv'
      exact (hkap s₁ fun _ _ _ e => e).elim
    · obtain ⟨_, h₁, tk₁, rfl, hk₁⟩ := hp'
      have keep1 : ∀ b o, b ≠ L → b ≠ I → s.heap.get? b = some o → h'.get? b = some o := fun b o x1 x2 e => hk' b o (hk₁ b o x1 (fun z => x2 (List.mem_singleton.mp z)) e)
      rw [List.take_length] at hv
      refine hR _ acc c m hos ?_ (fun b o e => keep1 b o (lt1 e bL) (lt1 e i4) (hkp b o e)) (keep1 _ _ (Ne.symm nLD) (Ne.symm i1) hD) hv (hC.at' fun o e => keep1 _ o (Ne.symm nLC) (Ne.symm i2) e)
      exact allBare_setGen (s := { s with gens := (s.setGen gn .running).gens }) (allBare_setGen hba rfl) rfl
end
end Va

namespace Va
theorem chain {a b D C z : Nat} (h1 : a < b) (h2 : b < D) (h3 : D < C) (h4 : C < z) : a ≤ b ∧ a ≤ D ∧ a ≤ C ∧ a ≤ z ∧ a ≠ D ∧ a ≠ C ∧ b ≠ D ∧ b ≠ C ∧ D ≠ C ∧ a ≠ b ∧ z ≠ D ∧ z ≠ C ∧ z ≠ b := by omega
open PySem PySem.Spec PyProof.Rows L2 GenW Ub Ur Ug Ue Up
/-- [y for y in o.m()], m a generator method over the keys of the dict in the field f -/
def tLcKeys (C : Addr) (m f : Str) (ta : TE) : TE := fun σ H Q => ta σ H fun v H1 => ∃ a dx fs d kvs, v = .ref a ∧ H1 a = some (.ins C dx fs) ∧ fs.lookup m = none ∧ fs.lookup f = some (.ref d) ∧ H1 d = some (.dK kvs) ∧
  ∀ D, H1 D = none → Q (.ref D) (upd H1 D (.lst (keysV kvs)))
theorem kv_keys : ∀ {kvs : List (Key × V)} {vs : List (Key × Value)}, KV kvs vs → keysV kvs = keysV vs
  | _, _, .nil => rfl
  | _, _, .cons r t => by
    show kV _ :: keysV _ = kV _ :: keysV _
    rw [r.1, kv_keys t]
theorem pe_lcKeys {X : Cx} {o : Expr} {ta : TE} {C g : Addr} {fd : FuncData} {m f self x y qual : Str} {params : Arguments} {gsc scope : Scope} {own : List (Str × Nat)} {px p0 p1 p2 p3 p4 p5 q1 q2 apos pos pos' : Pos} {pl : Sem Bool}
    (hc : X.calm = true) (ok : BlkOk X.N X.env.scope scope own) (hyl : scope.names.lookup y = some .local) (he : PE X o ta) (c : Cls X.K C) (n : NoAttr X.K C f) (hm : Meth X.K C m g)
    (F : FunD X.K m qual params [.For (.Name x px) (.Attribute (.Name self p0) f p4) (yb x p1 p2 p3) [] p5] gsc [] [] g fd) (hbd : Binds X.K fd [self] []) (S : GScope [self, x] [self] gsc) (hx : gsc.names.lookup x = some .local) (hself : gsc.names.lookup self = some .local)
    (hr : Room 2 X.A) (hi : ∀ L cd, interactive (envOfC qual gsc L g cd) = false) (hb : ∀ L cd, attributeBase (.Name self p0) f (envOfC qual gsc L g cd) (eval (.Name self p0) (envOfC qual gsc L g cd)) = eval (.Name self p0) (envOfC qual gsc L g cd))
    (hfo : ∀ L cd v, foldedSetIterable (.Attribute (.Name self p0) f p4) (envOfC qual gsc L g cd) v = pure v)
    (hdx : (x == ("__debug__" : Str)) = false := by decide) (hds : (self == ("__debug__" : Str)) = false := by decide) (hdy : (y == ("__debug__" : Str)) = false := by decide)
    (hs : ∀ v, foldedSetIterable (.Call (.Attribute o m apos) [] [] pos') X.env v = pure v := by intro _; rfl)
    (ht : eval (.Call (.Attribute o m apos) [] [] pos') X.env = (do
      let ov ← eval o X.env
      standAt apos.atName
      let (f, first) ← holding [ov] (getMethod ov m pl)
      callWith pos' f first (backTo pos' (starEach [] X.env)) (backToKw pos' (keywordEach [] X.env))) := by rfl) :
    PE X (.ListComp (.Name y q1) [⟨.Name y q2, .Call (.Attribute o m apos) [] [] pos', [], 0⟩] scope pos) (tLcKeys C m f ta) := by
  refine ⟨fun pins s σ H Q I h => ?_⟩
  rw [eval_ListComp]
  have hfree : ∀ y ∈ scope.names, y.2 = .free → ∃ c, X.env.cells.lookup y.1 = some c := fun y hy e => by
    rcases ok.free y hy e with k | k
    · exact I.ok.has _ (.inl k)
    · exact I.ok.has _ (.inr k)
  refine wpAny_comprehension_free (use := none) rfl hs (closure_ok hfree) ok.kind (fun y hy e => by rw [ok.uniq y hy, e]) ?_
  refine PySem.W.methodCall_KW (pl := pl) (thn (he.run pins s σ H _ I h) fun u s1 ⟨v, H1, I1, rx, a, dx, fs, d, kvs, ev, ea, l, lf, hd, q⟩ => ?_) ht
  subst ev
  obtain rfl : u = Value.ref a := rx
  refine getmeth_ok I1 ea c hm l ?_
  obtain ⟨oc, od, dV, kV', doc, pm, an, cdv, ct, osl, rfl, lk, hcd, _, _⟩ := F.ex
  have lim : s1.heap.NoLimit := I1.nolimit
  refine PySem.W.callWith_K0 (first := [.ref a]) I1.kIn hm.kp (wpAny_call (codeAny_call_generator hr.depth (I1.kIn _ _ lk) rfl S.co S.gen rfl (PySem.W.codeRec_of I1.kIn hcd) (hbd s1 [.ref a] I1.kIn rfl _ _ _ _ ?_)))
  refine wpAny_newFunctionEnv_cells S.kind (fun z hz => ?_) fun env eenv s2 xin => ?_
  · have : z = (self, Value.ref a) := by simpa using hz
    rw [this]
    exact .inl hself
  subst eenv
  have lim2 : s2.heap.NoLimit := lim.keeps xin.toInCall.keep
  refine ⟨lim2, ?_⟩
  obtain ⟨hp2, tk2, es2, _⟩ := xin.done
  have os2 : s2.os = s1.os := by rw [es2]
  have gen2 : s2.gens = s1.gens := by rw [es2]
  have kp2 := xin.toInCall.keep
  have nsL := xin.toInCall.ns
  have lt2 : s1.heap.objs.size < s2.heap.objs.size := nsL.lt
  obtain ⟨mA, O, rA, _, _, _⟩ := ins_get I1.hok ea
  obtain ⟨u, hu, ru⟩ := RelO.some_of (v := V.ref d) (o := mA f) (by rw [← lf]; exact rA f)
  obtain rfl : u = Value.ref d := ru
  obtain ⟨hz, hsys, vs, kv, hdict⟩ := I1.hok d _ hd
  obtain ⟨od', es', ep, dat⟩ := hdict
  have dA : s1.heap.DictAt (mixKind X.prog X.w) d vs ep := ⟨od', es', dat⟩
  have lvs : kvs.length = vs.length := Paired.length kv
  generalize hgo : ({ cls := .type "generator", data := .fields #[.int s2.gens.size 0, .str (PySem.W.fnOf m qual params [.For (.Name x px) (.Attribute (.Name self p0) f p4) (yb x p1 p2 p3) [] p5] gsc dV kV' doc pm an cdv ct).name s2.toks, .str (PySem.W.fnOf m qual params [.For (.Name x px) (.Attribute (.Name self p0) f p4) (yb x p1 p2 p3) [] p5] gsc dV kV' doc pm an cdv ct).qualname (s2.toks + 1)] } : Obj) = go
  have hgp : ∀ h : Heap, (h.push go).get? h.objs.size = some go := fun h => by rw [← hgo]; exact Heap.get?_push_size _ rfl
  have hig : ∀ h : Heap, h.get? s2.heap.objs.size = some go → h.IsGen s2.heap.objs.size s2.gens.size := fun h e => ⟨go, _, _, e, by rw [← hgo], by rw [← hgo], by rw [← hgo]⟩
  show wpAny _ _ (pyIter (.ref s2.heap.objs.size)) _ _ ({ s2 with gens := s2.gens.push (.fresh (.func [.For (.Name x px) (.Attribute (.Name self p0) f p4) (yb x p1 p2 p3) [] p5] (envOfC qual gsc s1.heap.objs.size g cdv))), toks := s2.toks + 1 + 1, heap := s2.heap.push go } : Shared)
  generalize hs3 : ({ s2 with gens := s2.gens.push (.fresh (.func [.For (.Name x px) (.Attribute (.Name self p0) f p4) (yb x p1 p2 p3) [] p5] (envOfC qual gsc s1.heap.objs.size g cdv))), toks := s2.toks + 1 + 1, heap := s2.heap.push go } : Shared) = s3
  have h3 : s3.heap = s2.heap.push go := by rw [← hs3]
  have g3 : s3.gens[s2.gens.size]? = some (.fresh (.func [.For (.Name x px) (.Attribute (.Name self p0) f p4) (yb x p1 p2 p3) [] p5] (envOfC qual gsc s1.heap.objs.size g cdv))) := by rw [← hs3]; exact Array.getElem?_push_size ..
  have os3 : s3.os = s1.os := by rw [← hs3]; exact os2
  have ba3 : AllBare s3.gens := by rw [← hs3]; exact AllBare.push (by rw [gen2]; exact I1.bare) rfl
  have ge3 : s3.heap.get? s2.heap.objs.size = some go := by rw [h3]; exact hgp _
  have sz3 : s3.heap.objs.size = s2.heap.objs.size + 1 := by rw [h3, Heap.size_push]
  have kp3 : ∀ b o, s2.heap.get? b = some o → s3.heap.get? b = some o := fun b o e => by rw [h3]; exact Heap.get?_push_of_some _ e
  clear hs3 h3
  refine wpAny_pyIter_gen (hig _ ge3) ?_
  refine wpAny_newObj_type (newEnv_comp ?_) (by show 0 ≤ sizeLine; decide)
  generalize hD : s3.heap.objs.size = D at sz3
  generalize hs4 : ({ s3 with heap := s3.heap.push { cls := .type "list", data := .seq ([] : List Value).toArray } } : Shared) = s4
  have h4 : s4.heap = s3.heap.push { cls := .type "list", data := .seq ([] : List Value).toArray } := by rw [← hs4]
  have g4 : s4.gens = s3.gens := by rw [← hs4]
  have os4 : s4.os = s3.os := by rw [← hs4]
  have eD4 : s4.heap.get? D = some (lstObj #[] 0) := by rw [h4, ← hD]; exact Heap.get?_push_size _ rfl
  have kp4 : ∀ b o, s3.heap.get? b = some o → s4.heap.get? b = some o := fun b o e => by rw [h4]; exact Heap.get?_push_of_some _ e
  have sz4 : s4.heap.objs.size = D + 1 := by rw [h4, Heap.size_push, hD]
  clear hs4 h4
  have nsC : (s4.heap.push { cls := .type "dict", data := .dict #[] }).Ns s4.heap.objs.size (fun _ => none) := ⟨_, #[], _, Heap.get?_push_size _ rfl, rfl, (fun e he => absurd he (by simp)), fun _ => rfl⟩
  generalize hs5 : ({ s4 with heap := pushCells (s4.heap.push { cls := .type "dict", data := .dict #[] }) scope.names } : Shared) = s5
  have h5 : s5.heap = pushCells (s4.heap.push { cls := .type "dict", data := .dict #[] }) scope.names := by rw [← hs5]
  have g5 : s5.gens = s4.gens := by rw [← hs5]
  have os5 : s5.os = s4.os := by rw [← hs5]
  have kp5 : ∀ b o, s4.heap.get? b = some o → s5.heap.get? b = some o := fun b o e => by rw [h5]; exact pushCells_keeps _ _ _ _ (Heap.get?_push_of_some _ e)
  have nsC5 : s5.heap.Ns s4.heap.objs.size (fun _ => none) := by rw [h5]; exact nsC.at' fun o e => pushCells_keeps _ _ _ _ e
  clear hs5 h5 nsC
  show codeAny _ _ (.compStart _ 0 (.ref s2.heap.objs.size) (.ref D) (compEnvC scope (cellsFrom (s4.heap.objs.size + 1) scope.names (cloFrom X.env.cells scope.names [])) s4.heap.objs.size X.env)) (compPost (model X.prog X.w) X.A X.xe none _ (.ref D) s4.heap.objs.size) s5
  generalize hce : compEnvC scope (cellsFrom (s4.heap.objs.size + 1) scope.names (cloFrom X.env.cells scope.names [])) s4.heap.objs.size X.env = ce
  have cL : ce.locals = s4.heap.objs.size := by subst hce; rfl
  have ck : ce.scope.kind = .function := by subst hce; exact ok.kind
  have cy : ce.kindOf y = some .local := by subst hce; exact lookup_relabel_local hyl
  rw [← cL] at nsC5 ⊢
  have all1 : ∀ b o, s1.heap.get? b = some o → s5.heap.get? b = some o := fun b o e => kp5 _ _ (kp4 _ _ (kp3 _ _ (kp2 _ _ e)))
  have lD : s2.heap.objs.size < D := by omega
  have lC : D < ce.locals := by rw [cL]; omega
  have sz5 : ce.locals < s5.heap.objs.size := nsC5.lt
  obtain ⟨c1, c2, c3, c4, c5, c6, c7, c8, c9, c10, c11, c12, c13⟩ := chain lt2 lD lC sz5
  have nsL5 : s5.heap.Ns s1.heap.objs.size _ := nsL.at' fun o e => kp5 _ _ (kp4 _ _ (kp3 _ _ e))
  have start : LI X.prog X.w X.A s1.os s1.heap s1.heap.objs.size s2.heap.objs.size s2.gens.size d D ce.locals vs vs.length s5 := by
    refine ⟨0, #[], 0, _, .fresh (.func [.For (.Name x px) (.Attribute (.Name self p0) f p4) (yb x p1 p2 p3) [] p5] (envOfC qual gsc s1.heap.objs.size g cdv)), s5.heap.objs.size, rfl, Nat.zero_le _, (os5.trans os4).trans os3, by rw [g5, g4]; exact ba3, all1, kp5 _ _ eD4, .nil, nsC5, hig _ (kp5 _ _ (kp4 _ _ ge3)), by rw [g5, g4]; exact g3,
      ⟨c11, c12, c13, c4⟩, ?_⟩
    refine ⟨rfl, ?_⟩
    refine seg_keys (K := X.K) (env := envOfC qual gsc s1.heap.objs.size g cdv) (s := s5.setGen s2.gens.size .running) (I1.ok.hd hc) S.kind hx hself S.co (hi _ _) hdx hds (by rw [show (envOfC qual gsc s1.heap.objs.size g cdv).scope.kind = .function from S.kind]; rfl) (hb _ _) (hfo _ _)
      (I1.kIn.keeps all1) ⟨all1 _ _ O.obj, O.ns.at fun o e => all1 _ _ e, O.ne⟩ c n hu hsys (dA.keep all1) nsL5 ?_ ?_
    · exact bindL_get (P := [self]) (vs := [Value.ref a]) (i := 0) (by simp) rfl rfl hself
    · exact Nat.ne_of_gt dA.lt_size
  have loop : ∀ s', LI X.prog X.w X.A s1.os s1.heap s1.heap.objs.size s2.heap.objs.size s2.gens.size d D ce.locals vs vs.length s' → codeAny (model X.prog X.w) X.A (.compLoop (.ListComp (.Name y q1) [⟨.Name y q2, .Call (.Attribute o m apos) [] [] pos', [], 0⟩] scope pos) 0 (.ref s2.heap.objs.size) (.ref D) ce) (compPost (model X.prog X.w) X.A X.xe none (EP X pins σ Q) (.ref D) ce.locals) s' := by
    intro s' hs'
    refine loop_keys (I1.ok.hd hc) hr.depth ck cy hdy (by rw [ck]; rfl) lim (Nat.le_refl _) c1 c2 c3 dA.lt_size c5 c6 c7 c8 c9 c10 (by rw [← lvs]; exact hz) (fun s6 acc cc mm e1 e2 e3 e4 e5 e6 => ?_) _ _ hs'
    refine ⟨mm, e6, fun h' sb => ?_⟩
    rw [← kv_keys kv] at e5
    have k6 : ∀ b o, s1.heap.get? b = some o → h'.get? b = some o := fun b o e => sb.extBut b o (Nat.ne_of_lt (Nat.lt_of_lt_of_le (Heap.lt_size e) c3)) (e3 b o e)
    have nD : H1 D = none := I1.hok.fresh c2
    refine ⟨.ref D, upd H1 D (.lst (keysV kvs)), ?_, rfl, q D nD⟩
    exact I1.drained (s' := { s6 with heap := h' }) (S := D) c2 (by rw [List.length_map]; exact hz) (sb.extBut D _ (Nat.ne_of_lt lC) e4) e5 ExOk.nil e1 e2 (Un.kept k6) (I1.hok.kept k6) nD
  exact codeAny_compStart_list (loop _ start) (wpAny_pyIter_gen (hig _ (kp5 _ _ (kp4 _ _ ge3))) (loop _ start))
end Va

namespace Ve
open PySem PySem.Spec PyProof.Rows L2 Ub Ur Ug Ue Up Uo
theorem units4 {k : Nat} {A : Around} (r : Room k A) : A.units + 4 < cLine := by have := r.un; omega
/-- a class whose instances may be asked isinstance -/
structure TyC (K : PySem.W.Frag) (C : Addr) : Prop where
  ha : PySem.W.findIn K (.ref C) "__class__" = some (some (.builtin "object.__class__"))
  hn : PySem.W.specialIn K (.builtin "object.__class__") "__get__" = some (some (.builtin "getset_descriptor.__get__"))
  ht : PySem.W.takesIn K (.builtin "object.__class__") = some true
  hm : PySem.W.mroIn K C (.type "object") = some true
  kit : PySem.W.kitOne K (.ref C) (.ref C) = some true
def tyCB (K : PySem.W.Frag) (C : Addr) : Bool := decide (PySem.W.findIn K (.ref C) "__class__" = some (some (.builtin "object.__class__"))) && (decide (PySem.W.specialIn K (.builtin "object.__class__") "__get__" = some (some (.builtin "getset_descriptor.__get__"))) &&
  (decide (PySem.W.takesIn K (.builtin "object.__class__") = some true) && (decide (PySem.W.mroIn K C (.type "object") = some true) && decide (PySem.W.kitOne K (.ref C) (.ref C) = some true))))
theorem tyCB_ok {K : PySem.W.Frag} {C : Addr} (h : tyCB K C = true) : TyC K C := by
  unfold tyCB at h
  simp only [Bool.and_eq_true, decide_eq_true_eq] at h
  exact ⟨h.1, h.2.1, h.2.2.1, h.2.2.2.1, h.2.2.2.2⟩
theorem TyC.ty {K : PySem.W.Frag} {C a dx : Addr} {H : Hp} {fs : List (Str × V)} (t : TyC K C) (c : Cls K C) (e : H a = some (.ins C dx fs)) : TyX K H (.ref a) (.ref C) := .base (.ins e c t.ha t.hn t.ht t.hm)
abbrev pks (t : Tr) : List Str := (paths t).map (·.1)
/-- what is no path of a tree -/
def NoP (K : PySem.W.Frag) (H : Hp) (t : Tr) (y : V) : Prop := NotStr K H y ∨ ∃ z : Str, y = .str z ∧ z ∉ pks t
def sp_get (K : PySem.W.Frag) (C B : Addr) : Sp := fun vs H Q E => ∃ x g Z y, vs = [.ref x, y] ∧ ShG Z C H x g ∧ good g.tr ∧
  ((∃ m ∈ gpaths x g, y = .str m.1 ∧ Q (.ref m.2.1) H) ∨ (NoP K H g.tr y ∧ ∀ e H', Same H H' → H e = none → H' e = some (.xd [("path", y)]) → E (.ref B) (some e) H'))
def sp_con (K : PySem.W.Frag) (C : Addr) : Sp := fun vs H Q _ => ∃ x g Z y, vs = [.ref x, y] ∧ ShG Z C H x g ∧ good g.tr ∧ ((∃ z : Str, y = .str z ∧ Q (.bl (decide (z ∈ pks g.tr))) H) ∨ (NotStr K H y ∧ Q (.bl false) H))
def sp_eqS (K : PySem.W.Frag) (C : Addr) : Sp := fun vs H Q _ => ∃ x g Z y, vs = [.ref x, y] ∧ ShG Z C H x g ∧ ((∃ x' g' Z', y = .ref x' ∧ ShG Z' C H x' g' ∧ Q (.bl (decide (g.tr.text = g'.tr.text))) H) ∨ (∃ T : String, TyX K H y (.type T) ∧ PySem.W.kitOne K (.type T) (.ref C) = some false ∧ Q (.bl false) H))
theorem gp_len : ∀ g : Sg, (gp g).length = g.tr.size
  | .nil => rfl
  | .cons w p s r => by
    show ((((("." : Str), p, s) :: gp s).map fun m => (down w m.1, m.2)) ++ gp r).length = 1 + s.tr.size + r.tr.size
    rw [List.length_append, List.length_map, List.length_cons, gp_len s, gp_len r]
    omega
end Ve

namespace Ux
open PySem PySem.W PySem.Calls PyProof.Rows
/-! ### the top's facts, found in several runs -/
theorem obs_app {n : Nat} {fa1 fa2 : List He.Fa} {fn1 fn2 : List He.DefD} {ex1 ex2 : PySem.W.Frag → Bool} {g : Addr → Option Obj} {w : World} (h1 : He.obsX n fa1 fn1 [] [] ex1 g = He.valX fn1 [] w) (h2 : He.obsX n fa2 fn2 [] [] ex2 g = He.valX fn2 [] w) :
    He.obsX n (fa1 ++ fa2) (fn1 ++ fn2) [] [] (fun K => ex1 K && ex2 K) g = He.valX (fn1 ++ fn2) [] w := by
  unfold He.obsX He.valX He.obsT He.valT He.obsD He.valD He.tabsB at *
  simp only [Prod.mk.injEq, List.map_nil, List.all_nil, Bool.and_true, and_true, Bool.and_eq_true] at h1 h2 ⊢
  obtain ⟨⟨a1, a2⟩, a3⟩ := h1
  obtain ⟨⟨b1, b2⟩, b3⟩ := h2
  obtain ⟨c1, c2⟩ := a1
  obtain ⟨d1, d2⟩ := b1
  refine ⟨⟨⟨?_, ?_⟩, ?_⟩, a3, b3⟩
  · rw [List.all_append, c1, d1]; rfl
  · rw [List.all_append, c2, d2]; rfl
  · rw [List.map_append, List.map_append, a2, b2]
theorem run_app {R : OpenRow} {q : Program} {n M : Nat} {loose : List Str} {w : World} {fa1 fa2 : List He.Fa} {fn1 fn2 : List He.DefD} {ex1 ex2 : PySem.W.Frag → Bool}
    (h1 : HandSHeadRun.RunEq R q (He.hookX n fa1 fn1 [] [] ex1) (fun s => He.obsX n fa1 fn1 [] [] ex1 (HandSHeadRun.getT s)) M loose w) (h2 : HandSHeadRun.RunEq R q (He.hookX n fa2 fn2 [] [] ex2) (fun s => He.obsX n fa2 fn2 [] [] ex2 (HandSHeadRun.getT s)) M loose w) :
    HandSHeadRun.RunEq R q (He.hookX n (fa1 ++ fa2) (fn1 ++ fn2) [] [] (fun K => ex1 K && ex2 K)) (fun s => He.obsX n (fa1 ++ fa2) (fn1 ++ fn2) [] [] (fun K => ex1 K && ex2 K) (HandSHeadRun.getT s)) M loose w := by
  intro os
  have e1 := h1 os
  have e2 := h2 os
  revert e1 e2
  cases HandSHeadRun.endF (HandSHeadRun.stepQ (HandSHeadRun.denQ HandSHeadRun.tabQ) R.prog w) M R.prog w os with
  | none => intro e1 _; exact nomatch e1
  | some s =>
    intro e1 e2
    have f1 := Option.some.inj e1
    have f2 := Option.some.inj e2
    refine congrArg some ?_
    have g1 := congrArg (fun z => z.1) f1
    have g2 := congrArg (fun z => z.2.1) f1
    have k1 : He.obsX n fa1 fn1 [] [] ex1 (HandSHeadRun.getT s) = He.valX fn1 [] w := congrArg (fun z => z.2.2) f1
    have k2 : He.obsX n fa2 fn2 [] [] ex2 (HandSHeadRun.getT s) = He.valX fn2 [] w := congrArg (fun z => z.2.2) f2
    exact Prod.ext g1 (Prod.ext g2 (obs_app k1 k2))
end Ux
namespace Ux
open PySem PySem.W PySem.Calls PyProof.Rows
/-- the run, each look at its end by itself -/
noncomputable abbrev EndAt (R : OpenRow) (M : Nat) (w : World) (os : OsState) : Option SharedT := HandSHeadRun.endF (HandSHeadRun.stepQ (HandSHeadRun.denQ HandSHeadRun.tabQ) R.prog w) M R.prog w os
noncomputable abbrev lookAt (R : OpenRow) (w : World) (s : SharedT) : Bool := HandSHeadRun.looksF R.prog (boot_heap w.params) s.abs
noncomputable abbrev seenAt (R : OpenRow) (q : Program) (loose : List Str) (s : SharedT) := HandSHeadRun.seenQ q loose (importedModules R.prog.main.body) (fun s => xlAt q [] s && recOk R.toRowW.records s) s.abs
noncomputable abbrev goodAt (q : Program) (loose : List Str) := openGood q loose
theorem run_of {R : OpenRow} {q : Program} {H : Hook} {ob : SharedT → H.α} {M : Nat} {loose : List Str} {w : World}
    (h1 : ∀ os, (EndAt R M w os).map (lookAt R w) = some true) (h2 : ∀ os, (EndAt R M w os).map (seenAt R q loose) = some (goodAt q loose)) (h3 : ∀ os, (EndAt R M w os).map ob = some (H.val w)) : HandSHeadRun.RunEq R q H ob M loose w := by
  intro os
  have e1 := h1 os
  have e2 := h2 os
  have e3 := h3 os
  revert e1 e2 e3
  show (EndAt R M w os).map _ = _ → (EndAt R M w os).map _ = _ → (EndAt R M w os).map _ = _ → (EndAt R M w os).map _ = _
  cases EndAt R M w os with
  | none => intro e1 _ _; exact nomatch e1
  | some s =>
    intro e1 e2 e3
    exact congrArg some (Prod.ext (Option.some.inj e1) (Prod.ext (Option.some.inj e2) (Option.some.inj e3)))
theorem obs_of {n : Nat} {R : OpenRow} {M : Nat} {w : World} {fa1 fa2 : List He.Fa} {fn1 fn2 : List He.DefD} {ex1 ex2 : PySem.W.Frag → Bool}
    (h1 : ∀ os, (EndAt R M w os).map (fun s => He.obsX n fa1 fn1 [] [] ex1 (HandSHeadRun.getT s)) = some (He.valX fn1 [] w)) (h2 : ∀ os, (EndAt R M w os).map (fun s => He.obsX n fa2 fn2 [] [] ex2 (HandSHeadRun.getT s)) = some (He.valX fn2 [] w)) :
    ∀ os, (EndAt R M w os).map (fun s => He.obsX n (fa1 ++ fa2) (fn1 ++ fn2) [] [] (fun K => ex1 K && ex2 K) (HandSHeadRun.getT s)) = some (He.valX (fn1 ++ fn2) [] w) := by
  intro os
  have e1 := h1 os
  have e2 := h2 os
  revert e1 e2
  cases EndAt R M w os with
  | none => intro e1 _; exact nomatch e1
  | some s =>
    intro e1 e2
    exact congrArg some (obs_app (Option.some.inj e1) (Option.some.inj e2))
end Ux

namespace Vk
open PySem PySem.Spec PyProof.Rows L2 Ub
/-! ### the top's facts with the getters of properties -/
/-- where a property's getter stands -/
def gAd (K : PySem.W.Frag) (x f : Str) : Addr := He5.wf K (He.ga K x) "property" f
def exP (ex : PySem.W.Frag → Bool) (pn : List He5.DefA) (K : PySem.W.Frag) : Bool := ex K && pn.all fun d => d.ok K
def fnP (pn : List He5.DefA) (K : PySem.W.Frag) : List He.FnW := pn.map fun d => He5.fnA K (d.at_ K)
abbrev AlP : Type := He.AlX × List He.FnW
def obsP (n : Nat) (fa : List He.Fa) (fn : List He.DefD) (pn : List He5.DefA) (ex : PySem.W.Frag → Bool) (g : Addr → Option Obj) : AlP := (He.obsX n fa fn [] [] (exP ex pn) g, fnP pn (He.frT g (He.asD g n)))
def valP (fn : List He.DefD) (pn : List He5.DefA) (w : World) : AlP := (He.valX fn [] w, pn.map He5.DefA.val)
structure SaysP (fa : List He.Fa) (fn : List He.DefD) (pn : List He5.DefA) (ex : PySem.W.Frag → Bool) (w : World) (h : Heap) (K : PySem.W.Frag) : Prop where
  x : He.SaysX fa fn [] [] (exP ex pn) w h K
  p : fnP pn K = pn.map He5.DefA.val
def hookP (n : Nat) (fa : List He.Fa) (fn : List He.DefD) (pn : List He5.DefA) (ex : PySem.W.Frag → Bool) : PySem.W.Hook where
  α := AlP
  obs := fun s => obsP n fa fn pn ex s.heap.get?
  val := fun w => valP fn pn w
  says := fun w h => ∃ K : PySem.W.Frag, K.In h ∧ SaysP fa fn pn ex w h K
  of := fun _ _ e => ⟨_, He.frT_in, He.saysX_of (congrArg (fun z : AlP => z.1) e), congrArg (fun z : AlP => z.2) e⟩
  keeps := fun _ _ _ ⟨K, hK, c⟩ k => ⟨K, PySem.W.Frag.In.keeps hK k, ⟨c.x.t, c.x.more, c.x.hd, c.x.out, fun p hp => k _ _ (c.x.empty p hp)⟩, c.p⟩
theorem obsP_eq {n : Nat} {fa : List He.Fa} {fn : List He.DefD} {pn : List He5.DefA} {ex : PySem.W.Frag → Bool} {g : Addr → Option Obj} {s : Shared} (h : ∀ a, g a = s.heap.get? a) : obsP n fa fn pn ex g = (hookP n fa fn pn ex).obs s := by
  have e : g = s.heap.get? := funext h
  rw [e] <;> rfl
section
variable {fa : List He.Fa} {fn : List He.DefD} {pn : List He5.DefA} {ex : PySem.W.Frag → Bool} {w : World} {h : Heap} {K : PySem.W.Frag}
theorem SaysP.more (c : SaysP fa fn pn ex w h K) : ex K = true := (He.ba c.x.more).1
theorem SaysP.get (c : SaysP fa fn pn ex w h K) (i : Nat) {d : He5.DefA} (hd : pn[i]? = some d := by rfl) : ∃ fd, FunD K d.name d.qual d.params d.body d.scope (d.dvs K) (d.kws K) (d.at_ K) fd := by
  have c2 := (He.ba c.x.more).2
  have e2 : (pn.map fun d => He5.fnA K (d.at_ K))[i]? = (pn.map He5.DefA.val)[i]? := by rw [← c.p]; rfl
  rw [List.getElem?_map, List.getElem?_map, hd] at e2
  exact He5.DefA.funD (Option.some.inj e2) (List.all_eq_true.mp c2 d (List.mem_of_getElem? hd))
/-- in parts -/
theorem obsP_of {n : Nat} {R : PySem.W.OpenRow} {M : Nat} {ex1 : PySem.W.Frag → Bool} (hx : ∀ K, (ex1 K = true) → exP ex pn K = true)
    (h1 : ∀ os, (Ux.EndAt R M w os).map (fun s => He.obsX n fa fn [] [] ex1 (HandSHeadRun.getT s)) = some (He.valX fn [] w)) (h2 : ∀ os, (Ux.EndAt R M w os).map (fun s => fnP pn (He.frT (HandSHeadRun.getT s) (He.asD (HandSHeadRun.getT s) n))) = some (pn.map He5.DefA.val)) :
    ∀ os, (Ux.EndAt R M w os).map (fun s => obsP n fa fn pn ex (HandSHeadRun.getT s)) = some (valP fn pn w) := by
  intro os
  have e1 := h1 os
  have e2 := h2 os
  revert e1 e2
  cases Ux.EndAt R M w os with
  | none => intro e1 _; exact nomatch e1
  | some s =>
    intro e1 e2
    refine congrArg some (Prod.ext ?_ (Option.some.inj e2))
    have f1 := Option.some.inj e1
    have a1 : He.obsT fa fn [] _ = _ := congrArg (fun z : He.AlX => z.1) f1
    have a2 : (ex1 (He.frT (HandSHeadRun.getT s) (He.asD (HandSHeadRun.getT s) n)) && He.tabsB (HandSHeadRun.getT s) [] (He.frT (HandSHeadRun.getT s) (He.asD (HandSHeadRun.getT s) n))) = true := congrArg (fun z : He.AlX => z.2) f1
    refine Prod.ext a1 ?_
    show (exP ex pn _ && He.tabsB _ [] _) = true
    rw [hx _ (He.ba a2).1, (He.ba a2).2]
    rfl
end
/-! ### a property of an own class -/
structure PropB (K : PySem.W.Frag) (x f : Str) : Prop where
  ex : PropOf K (He.ga K x) f (He.ma K (He.ga K x) f) (gAd K x f)
def propB (K : PySem.W.Frag) (x f : Str) : Bool := decide (PySem.W.findIn K (.ref (He.ga K x)) f = some (some (.ref (He.ma K (He.ga K x) f)))) && (decide (PySem.W.specialIn K (.ref (He.ma K (He.ga K x) f)) "__get__" = some (some (.builtin "property.__get__"))) && (decide (PySem.W.takesIn K (.ref (He.ma K (He.ga K x) f)) = some true) &&
  (match PySem.W.recIn K (He.ma K (He.ga K x) f) "property" with | some (.ref _ :: _) => true | _ => false)))
theorem propB_ok {K : PySem.W.Frag} {x f : Str} (h : propB K x f = true) : PropB K x f := by
  unfold propB at h
  obtain ⟨h1, h⟩ := Bool.and_eq_true_iff.mp h
  obtain ⟨h2, h⟩ := Bool.and_eq_true_iff.mp h
  obtain ⟨h3, h⟩ := Bool.and_eq_true_iff.mp h
  refine ⟨of_decide_eq_true h1, of_decide_eq_true h2, of_decide_eq_true h3, ?_⟩
  unfold gAd He5.wf
  split at h
  · rename_i g' r hr
    exact ⟨r, by rw [hr]⟩
  · cases h
structure CalP (P : Program) (w : World) (K : PySem.W.Frag) (mg : Str → Option Value) (base : Heap) (k : Nat) (C : Addr) (f : Str) (sp : Sp) : Prop where
  ex : ∃ p g fd, PropOf K C f p g ∧ Cls K C ∧ FnOk P w K mg base CX0 k g fd ["self"] sp ∧ Binds K fd ["self"] []
theorem pe_propP {X : Cx} {k : Nat} {C : Addr} {f : Str} {sp : Sp} {e : Expr} {pos : Pos} {ta : TE} (c : CalP X.prog X.w X.K X.mg X.base k C f sp) (hr : Room (k + 1) X.A) (he : PE X e ta) (hab : attributeBase e f X.env (eval e X.env) = eval e X.env := by rfl) :
    PE X (.Attribute e f pos) (tProp C sp [] E0 ta) := by
  obtain ⟨p, g, fd, hp, cl, F, hb⟩ := c.ex
  exact pe_prop he cl hp F hr hb .nil (fun _ _ _ _ _ _ _ z => z.elim) hab
end Vk

namespace Wb
open PySem PySem.Spec PyProof.Rows L2 Ub Up Uo
/-! ### C() of a class without __init__ -/
structure Mk0 (K : PySem.W.Frag) (C : Addr) : Prop where
  makes : PySem.W.makesIn K C = true
  init : PySem.W.findIn K (.ref C) "__init__" = some (some (.builtin "object.__init__"))
  kp : PySem.W.keepIn K (.ref C) = true
def mk0B (K : PySem.W.Frag) (C : Addr) : Bool := PySem.W.makesIn K C && (decide (PySem.W.findIn K (.ref C) "__init__" = some (some (.builtin "object.__init__"))) && PySem.W.keepIn K (.ref C))
theorem mk0B_ok {K : PySem.W.Frag} {C : Addr} (h : mk0B K C = true) : Mk0 K C := by
  obtain ⟨h1, h2⟩ := Bool.and_eq_true_iff.mp h
  obtain ⟨h2, h3⟩ := Bool.and_eq_true_iff.mp h2
  exact ⟨h1, of_decide_eq_true h2, h3⟩
def tNew0 (C : Addr) : TE := fun _ H Q => ∀ x dx, H x = none → H dx = none → dx ≠ x → Q (.ref x) (upd (upd H dx (.own x)) x (.ins C dx []))
section
variable {X : Cx} {x : Str} {C : Addr} {p pos : Pos}
theorem pe_new0 (M : Mk0 X.K C) (hg : Gl X x) (hm : X.mg x = some (.ref C)) (hdb : (x == ("__debug__" : Str)) = false := by decide) : PE X (.Call (.Name x p) [] [] pos) (tNew0 C) := by
  refine ⟨fun pins s σ H Q I h => wpAny_Call_Name_kw (ld_glob I hg hm ?_ hdb)⟩
  refine PySem.W.callWith_K0 (first := []) I.kIn M.kp (wpAny_call ?_)
  have J := Inv.made (C := C) I
  have z := h (s.heap.objs.size + 1) s.heap.objs.size (I.hok.fresh (Nat.le_succ _)) (I.hok.fresh (Nat.le_refl _)) (Nat.ne_of_lt (Nat.lt_succ_self _))
  refine make_map0 I.kIn M.makes M.init (fun self => PySem.W.Looks.of_pure (PySem.W.oi_bind self)) ?_
  have Y := PySem.W.makes_of (M := model X.prog X.w) I.kIn M.makes
  have at_ : ((s.heap.push PySem.W.emptyDict).push (PySem.W.instObj C s.heap.objs.size)).get? (s.heap.objs.size + 1) = some (PySem.W.instObj C s.heap.objs.size) := by
    have := Heap.get?_push_size (o := PySem.W.instObj C s.heap.objs.size) (s.heap.push PySem.W.emptyDict) rfl
    rwa [Heap.size_push] at this
  have ty : PySem.W.Looks (model X.prog X.w) ((s.heap.push PySem.W.emptyDict).push (PySem.W.instObj C s.heap.objs.size)) (typeOf (.ref (s.heap.objs.size + 1))) (.ref C) := (PySem.W.Looks.ld at_).andThen .now
  have ob : PySem.W.Looks (model X.prog X.w) ((s.heap.push PySem.W.emptyDict).push (PySem.W.instObj C s.heap.objs.size)) (isInstance (.ref (s.heap.objs.size + 1)) (.type "object")) true :=
    ty.andThen (Y.top.keeps fun b o e => Heap.get?_push_of_some _ (Heap.get?_push_of_some _ e))
  refine codeAny_call_builtin PySem.W.oi_plain PySem.W.entry_oi (PySem.W.check_slot (i := "object.__init__") (owner := "object") (n := "__init__") PySem.W.oi_kind PySem.W.oi_split ob (PySem.W.oi_args _) ?_)
  rw [PySem.W.oi_run]
  exact wpAny_pure (And.intro rfl ⟨.ref _, _, J, rfl, z⟩)
end
/-! ### a class whose __init__ has defaults -/
structure CalMD (P : Program) (w : World) (K : PySem.W.Frag) (mg : Str → Option Value) (base : Heap) (k : Nat) (x : Str) (C : Addr) (ps : List Str) (dvs : List V) (sp : Sp) : Prop where
  ex : ∃ f fd ds, Mk K C f ∧ FnOk P w K mg base (CX P w) k f fd ps sp ∧ mg x = some (.ref C) ∧ Binds K fd ps ds ∧ Vals dvs ds
def tMakeD (C : Addr) (sp : Sp) (dvs : List V) (E : L2.St → XK) (t : TA) : TE := fun σ H Q => t σ H fun vs H1 => ∀ x dx, H1 x = none → H1 dx = none → dx ≠ x → sp (.ref x :: (vs ++ dvs)) (upd (upd H1 dx (.own x)) x (.ins C dx [])) (fun v H2 => v = .non ∧ Q (.ref x) H2) (E σ)
theorem pe_makeD {X : Cx} {k : Nat} {x : Str} {C : Addr} {ps : List Str} {dvs : List V} {sp : Sp} {e : Expr} {es : List Expr} {p pos : Pos} {t : TA} {E : L2.St → XK} (c : CalMD X.prog X.w X.K X.mg X.base k x C ps dvs sp) (hx : ∀ σ, PassesAt (CX X.prog X.w) X σ (E σ)) (hr : Room (k + 1) X.A) (hg : Gl X x)
    (ha : PA X (e :: es) t) (hdb : (x == ("__debug__" : Str)) = false := by decide) (he : starEach (e :: es) X.env = (false, eval e X.env) :: starEach es X.env := by rfl) (hpl : (backTo pos (starEach es X.env)).any (·.1) = false := by rfl) :
    PE X (.Call (.Name x p) (e :: es) [] pos) (tMakeD C sp dvs E t) := by
  obtain ⟨f, fd, ds, M, F, hm, hb, hv⟩ := c.ex
  refine ⟨fun pins s σ H Q I h => wpAny_Call_Name_kw (ld_glob I hg hm ?_ hdb)⟩
  refine PySem.W.callWith_K (h₀ := X.base) I.ok.mod.kin M.kp (thn (ha.run pos pins s σ H _ I h) fun us s1 ⟨vs, H1, J, rv, q⟩ => ⟨J.kIn, ?_⟩) he hpl
  have z := q (s1.heap.objs.size + 1) s1.heap.objs.size (J.hok.fresh (Nat.le_succ _)) (J.hok.fresh (Nat.le_refl _)) (Nat.ne_of_lt (Nat.lt_succ_self _))
  have J2 := Inv.made (C := C) J
  have r2 : Vals (V.ref (s1.heap.objs.size + 1) :: (vs ++ dvs)) (Value.ref (s1.heap.objs.size + 1) :: (us ++ ds)) := .cons rfl (rv.append hv)
  have hl : ((Value.ref (s1.heap.objs.size + 1) :: us) ++ ds).length = ps.length := by
    show (Value.ref (s1.heap.objs.size + 1) :: (us ++ ds)).length = _
    rw [← r2.length]
    exact F.len _ _ _ _ z
  have bi := hb _ (Value.ref (s1.heap.objs.size + 1) :: us) J2.kIn hl
  refine wpAny_call (make_map (f := f) J.kIn M.makes M.init (beq_iff_eq.mp M.fn) (codeAny_mono (F.run _ X.stack _ _ ⟨Value.ref (s1.heap.objs.size + 1) :: us, []⟩ _ _ _ (E σ) (hr.make C us []) (J2.env0.make C us []) bi r2 z) fun r s2 hq => ?_))
  match r, hq with
  | .error e, hq => exact hx σ pins _ _ e s2 J2 hq
  | .ok (.ret u), hq =>
    obtain ⟨v, H2, J3, r3, ev, q3⟩ := J2.after hq
    subst ev
    exact ⟨r3, .ref _, H2, J3, rfl, q3⟩
/-! ### o[i] = e by an own __setitem__ -/
def gSubO (C : Addr) (sp : Sp) (E : L2.St → XK) (to ti : TE) : TG := fun v σ H Q => to σ H fun o H1 => ti σ H1 fun i H2 => ∃ a dx fs, o = .ref a ∧ H2 a = some (.ins C dx fs) ∧ sp [.ref a, i, v] H2 (fun _ H3 => Q σ H3) (E σ)
theorem pg_subO {X : Cx} {CX : CXT} {k : Nat} {C : Addr} {ps : List Str} {sp : Sp} {E : L2.St → XK} {o i : Expr} {to ti : TE} {pos : Pos} (c : CalK X.prog X.w X.K X.mg X.base CX k C "__setitem__" ps sp) (ns : PySem.W.noSeq X.K C = true) (hx : ∀ σ, PassesAt CX X σ (E σ)) (hr : Room k X.A) (ho : PE X o to) (hi : PE X i ti)
    (ha : ∀ v, assign (.Subscript o i pos) X.env v = (do
      let ov ← holding [v] (eval o X.env)
      let iv ← holding [v, ov] (eval i X.env)
      standAt pos
      holding [v, ov, iv] (setItem ov iv v)
      release [v, ov, iv] []) := by intro _; rfl) : PG X (.Subscript o i pos) (gSubO C sp E to ti) := by
  obtain ⟨f, fd, M, _, F, hb⟩ := c.ex
  refine ⟨fun pins s σ H v u Q I r h => ?_⟩
  rw [ha]
  refine wpAny_bind (wpAny_holding (thn (ho.run pins s σ H _ I h) fun ov s1 ⟨x1, H1, I1, r1, q1⟩ => wpAny_bind (wpAny_holding ?_)))
  refine thn (hi.run pins s1 σ H1 _ I1 q1) fun iv s2 ⟨y, H2, I2, r2, a, dx, fs, ex, ea, q2⟩ => ?_
  subst ex
  cases r1
  obtain ⟨ox, od, J⟩ := inst_of I2 ea
  refine wpAny_bind (wpAny_standAt (wpAny_bind (wpAny_holding ?_)))
  refine setItem_own I2.kIn J ns M (wpAny_mono (run_fnA (vs := [.ref a, y, v]) F hr hb (hx σ) I2 (.cons rfl (.cons r2 (.cons r .nil))) q2) (fun _ s3 ⟨_, H3, I3, _, q3⟩ => ?_) fun _ _ z => z)
  exact wpAny_release ⟨σ, H3, I3, q3⟩
/-! ### several except clauses, each with a name -/
abbrev Cls4 : Type := Value × Nat × (Addr → Value → Option Addr → TS)
/-- behind a suite its name is gone -/
def gone (i : Nat) (D : Ends) : Ends := ⟨fun σ H => D.nx (σ.set i none) H, D.rt, fun σ H => D.bk (σ.set i none) H, fun σ H => D.ct (σ.set i none) H⟩
/-- what the clauses wish of what the body raises -/
def wManyA (K : PySem.W.Frag) (Wout : WX) (D : Ends) : List Cls4 → WX
  | [] => Wout
  | (c, i, ts) :: r => fun cls d σ H => ∃ b, PySem.W.exmOne K cls c = some b ∧ (b = true → ∀ a, H a = none → ts a cls d (gone i D) (σ.set i (some (.ref a))) H) ∧ (b = false → wManyA K Wout D r cls d σ H)
inductive HdsA (X : Cx) : List ExceptHandler → List Cls4 → Prop
  | nil : HdsA X [] []
  | cons {x n : Str} {i : Nat} {c : Value} {ts : Addr → Value → Option Addr → TS} {b0 : Stmt} {su : List Stmt} {np pos' : Pos} {hds : List ExceptHandler} {l : List Cls4} (hi : X.N[i]? = some n) (hln : X.env.kindOf n = some .local) (hc : Names X x c)
      (hsu : ∀ (a : Addr) (oe : Obj) (cls : Value) (d : Option Addr) (pn : List (Addr × Obj)), Zc cls d oe → (∃ vs, oe.data = .fields vs) → PSs (X.suite a ((a, oe) :: pn)) (b0 :: su) (ts a cls d)) (r : HdsA X hds l) :
      HdsA X (.ExceptHandler (some (.Name x np)) (some n) (b0 :: su) pos' :: hds) ((c, i, ts) :: l)
section
variable {X : Cx} {pins : List (Addr × Obj)} {D : Ends} {Wout : WX} {er : Addr} {Bh : Heap} {q0 q1 : Shared} {ρ : L2.St} {G : Hp} {kl : Value} {dc : Option Addr} {hh : Heap}
/-- no frame is what an exception is -/
theorem off_frames {fr : List Env} {ob : Obj} {vs : Array Value} (ff : hh.FunFrames Bh fr) (e : hh.get? er = some ob) (dd : ob.data = .fields vs) : er ∉ frs fr := fun hm => by
  obtain ⟨_, ob', e', hn⟩ := ff.mem hm
  cases e.symm.trans e'
  exact hn _ dd
theorem off_locals (hf : X.env.frame = some X.env.locals) (n : er ∉ frs (X.env :: X.outer)) : er ≠ X.env.locals ∧ er ∉ X.fs :=
  ⟨fun z => n (List.mem_filterMap.mpr ⟨X.env, List.mem_cons_self, by rw [hf, z]⟩), fun hm => by
    obtain ⟨e, he, q⟩ := List.mem_filterMap.mp hm
    exact n (List.mem_filterMap.mpr ⟨e, List.mem_cons_of_mem _ he, q⟩)⟩
/-- the clauses, one after the other, while the exception flies -/
theorem clauses (ok : X.Ok) (hN : X.N.Nodup) (hs : X.stack = X.env :: X.outer) (hf : X.env.frame = some X.env.locals) (tk : Takes X Wout) (J : Inv X pins ρ G q0) (nb : ∀ b o, q0.heap.get? b = some o → b ∉ frs X.stack → Bh.get? b = some o)
    (up : q0.heap.UpToSlots hh) (fl : HandSPX.FlyingZ Bh (X.env :: X.outer) er (Zc kl dc) hh) (na : G er = none) (os : q1.os = q0.os) (ag : AllBare q1.gens) :
    ∀ {hds : List ExceptHandler} {l : List Cls4}, HdsA X hds l → wManyA X.K Wout D l kl dc ρ G → wpAny (model X.prog X.w) X.A (handleBy (.ref er) X.env hds) (SP X pins D) X.xe { q1 with heap := hh } := by
  obtain ⟨oe, vs, he, hz, hd⟩ := fl.there
  obtain ⟨nL, nF⟩ := off_locals hf (off_frames fl.2.2.1 he hd)
  have J3 : Inv X pins ρ G { q1 with heap := hh } := J.landed nb fl.1 up os ag
  have S3 := J3.suite he hd na nL nF
  intro hds l hk
  induction hk with
  | nil =>
    intro wish
    refine wpAny_handleBy_nil ?_
    obtain ⟨_, _, _, ob, ws, Tb, _, _, eo, _, dd, e1, _⟩ := id fl
    unfold PySem.passOn
    refine wpAny_bind (wpAny_field eo dd e1 ?_)
    rw [if_neg (show ¬ ((Value.ref Tb == Value.none) = true) by simp)]
    have last : wpAny (model X.prog X.w) X.A (setFlight (.ref er) X.env.frame) (fun _ z => wpAny (model X.prog X.w) X.A (throw (.ref er) : Sem Flow) (SP X pins D) X.xe z) X.xe { q1 with heap := hh } := by
      rw [hf]
      refine HandSPX.setFlight_upZ fl fun h4 k4 u4 => wpAny_throw (tk _ _ ⟨er, Bh, q0, pins, ρ, G, kl, dc, rfl, J, nb, up.trans u4, .inr (.inr ?_), na, os, ag, wish⟩)
      rw [hs]
      exact k4
    first
      | exact wpAny_bind (wpAny_pure (wpAny_bind last))
      | exact wpAny_bind last
  | @cons x n i c ts b0 su np pos' hds2 l2 hi hln hc hsu r ih =>
    intro wish
    obtain ⟨b, hb1, hyes, hno⟩ := wish
    refine wpAny_handleBy_cons (codeAny_handlers_test ?_) (by intro q; cases q)
    have ty : PySem.W.Looks (model X.prog X.w) hh (typeOf (.ref er)) kl := looks_ref he hz.1
    have mt := PySem.W.exm_one (M := model X.prog X.w) J3.kIn ty hb1
    have ask : ∀ {Q : Value → Shared → Prop} {E : Value → Shared → Prop}, Q c { q1 with heap := hh } → wpAny (model X.prog X.w) (X.A.mark (some (.ref er))) (eval (.Name x np) X.env) Q E { q1 with heap := hh } := fun {Q E} q => by
      obtain ⟨g1, g2, g3 | ⟨g3, g4, g5⟩⟩ := hc
      · exact ld_glob (X := X.suite er ((er, oe) :: (X.pn ++ pins))) S3 g1 g3 q g2
      · exact ld_blt (X := X.suite er ((er, oe) :: (X.pn ++ pins))) S3 g1 g3 g4 q g5 g2
    refine ask (mt.here ?_)
    cases b with
    | false => exact ih (hno rfl)
    | true =>
      refine codeAny_handlers_suite_as (HandSPX.lands_againZ fl fun h4 f4 u4 => ?_)
      have J4 : Inv X pins ρ G { q1 with heap := h4 } := J.landed nb f4.1 (up.trans u4) os ag
      obtain ⟨oe4, vs4, he4, hz4, hd4⟩ := f4.there
      refine store_ok (X := X.suite er ((er, oe4) :: (X.pn ++ pins))) (v := .ref er) (J4.suite he4 hd4 na nL nF) hN hi (.inl hln) rfl (fun s5 S5 => ?_) (.inr hln)
      refine wpAny_mono ((hsu er oe4 kl dc (X.pn ++ pins) hz4 ⟨_, hd4⟩).run [] s5 _ G _ S5 (hyes rfl er na)) (fun f s6 fin => ?_) (fun _ _ z => z.elim)
      have off : ∀ {ρ6 : L2.St} {G6 : Hp} {Q : Shared → Prop}, Inv (X.suite er ((er, oe4) :: (X.pn ++ pins))) [] ρ6 G6 s6 → (∀ s7, Inv X pins (ρ6.set i none) G6 s7 → Q s7) →
          wpAny (model X.prog X.w) X.A (do bindName X.env n .none; unbindBehindTheSuite X.env n pos') (fun _ s7 => Q s7) X.xe s6 := fun S6 hq => gone_ok (S6.unsuite ok) hN hi hln hq
      cases f with
      | next => obtain ⟨_, _, S6, q6⟩ := fin; exact off S6 fun s7 J7 => ⟨_, _, J7, q6⟩
      | brk => obtain ⟨_, _, S6, q6⟩ := fin; exact off S6 fun s7 J7 => ⟨_, _, J7, q6⟩
      | cont => obtain ⟨_, _, S6, q6⟩ := fin; exact off S6 fun s7 J7 => ⟨_, _, J7, q6⟩
      | ret u => obtain ⟨_, _, _, S6, r6, q6⟩ := fin; exact off S6 fun s7 J7 => ⟨_, _, _, J7, r6, q6⟩
end
section
variable {X : Cx} {body : List Stmt} {h0 : ExceptHandler} {hds : List ExceptHandler} {l : List Cls4} {pos : Pos} {tb : WX → TS} {Wout : WX}
theorem ps_try_manyA (hs : X.stack = X.env :: X.outer) (hf : X.env.frame = some X.env.locals) (hN : X.N.Nodup) (tk : Takes X Wout)
    (hb : ∀ (W : WX) (pn : List (Addr × Obj)) (xe : Value → Shared → Prop), Takes (X.tr pn xe) W → PassesOwn (model X.prog X.w) X.A X.env xe → PSs (X.tr pn xe) body (tb W)) (hk : HdsA X (h0 :: hds) l) :
    PS X (.Try body (h0 :: hds) [] [] pos) (fun D σ H => tb (wManyA X.K Wout D l) D σ H) := by
  refine ⟨fun pins s σ H D I h => wpAny_Try_except ?_⟩
  have ok := I.ok
  refine wpAny_mono ((hb (wManyA X.K Wout D l) (X.pn ++ pins) (fun e s₁ => wpAny (model X.prog X.w) X.A (noteFrame e X.env) (fun _ s₂ => wpAny (model X.prog X.w) X.A (setFlight e none) (fun _ s₃ =>
    wpAny (model X.prog X.w) X.A (handleBy e X.env (h0 :: hds)) (SP X pins D) X.xe s₃) X.xe s₂) X.xe s₁) (fun u s' xx => ?_) PassesOwn.looking).run [] s σ H D (I.toTry _) h) (fun f s1 fin => ?_) (fun _ _ z => z)
  · obtain ⟨er, Bh, q0, _, ρ, G, kl, dc, rfl, J', nb, up, sky, na, os, ag, wish⟩ := xx
    have sky' : Sky Bh (X.env :: X.outer) er (Zc kl dc) X.env.locals s'.heap := by rw [← hs]; exact sky
    refine Sky.land Zc.steady (by rw [ok.frames, hs]) hf sky' fun h3 f3 u3 => ?_
    exact clauses ok hN hs hf tk (J'.ofTry ok) nb (up.trans u3) f3 na os ag hk wish
  · cases f with
    | next => obtain ⟨_, _, J', q⟩ := fin; exact wpAny_execs_nil ⟨_, _, J'.ofTry ok, q⟩
    | brk => obtain ⟨_, _, J', q⟩ := fin; exact ⟨_, _, J'.ofTry ok, q⟩
    | cont => obtain ⟨_, _, J', q⟩ := fin; exact ⟨_, _, J'.ofTry ok, q⟩
    | ret u => obtain ⟨_, _, _, J', r, q⟩ := fin; exact ⟨_, _, _, J'.ofTry ok, r, q⟩
end
end Wb

namespace Lx
open PySem PySem.Spec PyProof.Rows L2 Ub
def topS (i : Nat) : Stmt := PySem.Challenge.pw_unseenwrites_k07_parts_refused.main.body.getD i (.Pass ⟨0, 0, 0, 0⟩)
abbrev s_wall : Stmt := topS 0
abbrev s_BadShape___init__ : Stmt := inClass (topS 3) 0
abbrev s_BadPath___init__ : Stmt := inClass (topS 4) 0
abbrev s_BadValues___init__ : Stmt := inClass (topS 5) 0
abbrev s_BadValue___init__ : Stmt := inClass (topS 6) 0
abbrev s_is_word : Stmt := topS 14
abbrev s_records_of : Stmt := topS 15
abbrev s_plains_of : Stmt := topS 16
abbrev s_text_of : Stmt := topS 17
abbrev s_scan_word : Stmt := topS 18
abbrev s_scan_shape : Stmt := topS 19
abbrev s_is_bounded : Stmt := topS 20
abbrev s_tree_of : Stmt := topS 21
abbrev s_words_of : Stmt := topS 22
abbrev s_Shape___init__ : Stmt := inClass (topS 23) 0
abbrev s_Shape_is_plain : Stmt := inClass (topS 23) 1
abbrev s_Shape_depth : Stmt := inClass (topS 23) 2
abbrev s_Shape_records : Stmt := inClass (topS 23) 3
abbrev s_Shape_plains : Stmt := inClass (topS 23) 4
abbrev s_Shape_paths : Stmt := inClass (topS 23) 5
abbrev s_Shape_record_paths : Stmt := inClass (topS 23) 6
abbrev s_Shape_plain_paths : Stmt := inClass (topS 23) 7
abbrev s_Shape___getitem__ : Stmt := inClass (topS 23) 8
abbrev s_Shape___contains__ : Stmt := inClass (topS 23) 9
abbrev s_Shape___iter__ : Stmt := inClass (topS 23) 10
abbrev s_Shape___eq__ : Stmt := inClass (topS 23) 11
abbrev s_Shape___str__ : Stmt := inClass (topS 23) 12
abbrev s_is_whole : Stmt := topS 25
abbrev s_are_wholes : Stmt := topS 26
abbrev s_Part___init__ : Stmt := inClass (topS 28) 0
abbrev s_Part_content : Stmt := inClass (topS 28) 1
abbrev s_Part___getitem__ : Stmt := inClass (topS 28) 2
abbrev s_Part___setitem__ : Stmt := inClass (topS 28) 3
abbrev s_Part___contains__ : Stmt := inClass (topS 28) 4
abbrev s_Part___iter__ : Stmt := inClass (topS 28) 5
abbrev s_Part_same_as : Stmt := inClass (topS 28) 6
abbrev s_Part_copied : Stmt := inClass (topS 28) 7
abbrev s_Part___eq__ : Stmt := inClass (topS 28) 8
abbrev s_Part___str__ : Stmt := inClass (topS 28) 9
abbrev s_law_start : Stmt := topS 30
abbrev s_law_draw : Stmt := topS 31
abbrev s_law_of : Stmt := topS 32
abbrev s_law_word : Stmt := topS 33
abbrev s_law_records : Stmt := topS 34
abbrev s_law_plains : Stmt := topS 35
abbrev s_law_depth : Stmt := topS 36
abbrev s_law_text : Stmt := topS 37
abbrev s_law_tree : Stmt := topS 38
abbrev s_law_paths : Stmt := topS 39
abbrev s_law_made_shape : Stmt := topS 40
abbrev s_law_number : Stmt := topS 41
abbrev s_law_odd : Stmt := topS 42
abbrev s_law_made : Stmt := topS 43
abbrev s_law_item : Stmt := topS 44
abbrev s_law_put : Stmt := topS 45
abbrev s_law_wrong_values : Stmt := topS 46
abbrev s_law : Stmt := topS 47
def ddK (at_ : Str × Option Str) (x q : Str) (st : Stmt) (dfl : List He.Dv) (kwd : List (Str × He.Dv)) : He.DefD := ⟨at_, x, q, defArgs st, defBody st, defScope st, dfl, kwd⟩
def dd (at_ : Str × Option Str) (x q : Str) (st : Stmt) (dfl : List He.Dv) : He.DefD := ⟨at_, x, q, defArgs st, defBody st, defScope st, dfl, []⟩
def fn : List He.DefD := [dd ("_wall", none) "_wall" "_wall" s_wall [],
  dd ("BadShape", some "__init__") "__init__" "BadShape.__init__" s_BadShape___init__ [],
  dd ("BadPath", some "__init__") "__init__" "BadPath.__init__" s_BadPath___init__ [],
  dd ("BadValues", some "__init__") "__init__" "BadValues.__init__" s_BadValues___init__ [],
  dd ("BadValue", some "__init__") "__init__" "BadValue.__init__" s_BadValue___init__ [],
  dd ("is_word", none) "is_word" "is_word" s_is_word [],
  dd ("records_of", none) "records_of" "records_of" s_records_of [],
  dd ("plains_of", none) "plains_of" "plains_of" s_plains_of [],
  dd ("text_of", none) "text_of" "text_of" s_text_of [],
  dd ("scan_word", none) "scan_word" "scan_word" s_scan_word [],
  dd ("scan_shape", none) "scan_shape" "scan_shape" s_scan_shape [.int 3],
  dd ("is_bounded", none) "is_bounded" "is_bounded" s_is_bounded [],
  dd ("tree_of", none) "tree_of" "tree_of" s_tree_of [],
  dd ("words_of", none) "words_of" "words_of" s_words_of [],
  dd ("Shape", some "__init__") "__init__" "Shape.__init__" s_Shape___init__ [],
  dd ("Shape", some "paths") "paths" "Shape.paths" s_Shape_paths [],
  dd ("Shape", some "record_paths") "record_paths" "Shape.record_paths" s_Shape_record_paths [],
  dd ("Shape", some "plain_paths") "plain_paths" "Shape.plain_paths" s_Shape_plain_paths [],
  dd ("Shape", some "__getitem__") "__getitem__" "Shape.__getitem__" s_Shape___getitem__ [],
  dd ("Shape", some "__contains__") "__contains__" "Shape.__contains__" s_Shape___contains__ [],
  dd ("Shape", some "__iter__") "__iter__" "Shape.__iter__" s_Shape___iter__ [],
  dd ("Shape", some "__eq__") "__eq__" "Shape.__eq__" s_Shape___eq__ [],
  dd ("Shape", some "__str__") "__str__" "Shape.__str__" s_Shape___str__ [],
  dd ("is_whole", none) "is_whole" "is_whole" s_is_whole [],
  dd ("are_wholes", none) "are_wholes" "are_wholes" s_are_wholes [],
  ddK ("Part", some "__init__") "__init__" "Part.__init__" s_Part___init__ [] [("cells", .non)],
  dd ("Part", some "__getitem__") "__getitem__" "Part.__getitem__" s_Part___getitem__ [],
  dd ("Part", some "__setitem__") "__setitem__" "Part.__setitem__" s_Part___setitem__ [],
  dd ("Part", some "__contains__") "__contains__" "Part.__contains__" s_Part___contains__ [],
  dd ("Part", some "__iter__") "__iter__" "Part.__iter__" s_Part___iter__ [],
  dd ("Part", some "same_as") "same_as" "Part.same_as" s_Part_same_as [],
  dd ("Part", some "copied") "copied" "Part.copied" s_Part_copied [],
  dd ("Part", some "__eq__") "__eq__" "Part.__eq__" s_Part___eq__ [],
  dd ("Part", some "__str__") "__str__" "Part.__str__" s_Part___str__ [],
  dd ("_law_start", none) "_law_start" "_law_start" s_law_start [],
  dd ("_law_draw", none) "_law_draw" "_law_draw" s_law_draw [],
  dd ("_law_of", none) "_law_of" "_law_of" s_law_of [],
  dd ("_law_word", none) "_law_word" "_law_word" s_law_word [],
  dd ("_law_records", none) "_law_records" "_law_records" s_law_records [],
  dd ("_law_plains", none) "_law_plains" "_law_plains" s_law_plains [],
  dd ("_law_depth", none) "_law_depth" "_law_depth" s_law_depth [],
  dd ("_law_text", none) "_law_text" "_law_text" s_law_text [],
  dd ("_law_tree", none) "_law_tree" "_law_tree" s_law_tree [],
  dd ("_law_paths", none) "_law_paths" "_law_paths" s_law_paths [],
  dd ("_law_made_shape", none) "_law_made_shape" "_law_made_shape" s_law_made_shape [],
  dd ("_law_number", none) "_law_number" "_law_number" s_law_number [],
  dd ("_law_odd", none) "_law_odd" "_law_odd" s_law_odd [],
  dd ("_law_made", none) "_law_made" "_law_made" s_law_made [],
  dd ("_law_item", none) "_law_item" "_law_item" s_law_item [],
  dd ("_law_put", none) "_law_put" "_law_put" s_law_put [],
  dd ("_law_wrong_values", none) "_law_wrong_values" "_law_wrong_values" s_law_wrong_values [],
  dd ("law", none) "law" "law" s_law []]
def fa : List He.Fa := [.glo "_wall", .glo "UnseenwritesError", .glo "BadShape", .glo "BadPath", .glo "BadValues", .glo "BadValue", .glo "KEPT_WORDS", .glo "is_word", .glo "records_of", .glo "plains_of", .glo "text_of", .glo "scan_word", .glo "scan_shape", .glo "is_bounded", .glo "tree_of", .glo "words_of", .glo "Shape", .glo "is_whole", .glo "are_wholes", .glo "Token", .glo "Part", .glo "_law_start", .glo "_law_draw", .glo "_law_of", .glo "_law_word", .glo "_law_records", .glo "_law_plains", .glo "_law_depth", .glo "_law_text", .glo "_law_tree", .glo "_law_paths", .glo "_law_made_shape", .glo "_law_number", .glo "_law_odd", .glo "_law_made", .glo "_law_item", .glo "_law_put", .glo "_law_wrong_values", .glo "law", .int "MOST_DEPTH" 3, .int "MOST_RECORDS" 5, .int "MOST_PLAINS" 5, .int "MOST_FIELDS" 3, .str "LETTERS" "abcdefghijklmnopqrstuvwxyz", .free "ValueError", .free "abs", .free "all", .free "bool", .free "int", .free "isinstance", .free "iter", .free "len", .free "list", .free "max", .free "range", .free "repr", .free "str", .free "sum", .free "tuple", .cls "Shape", .mkr "Shape", .noat "Shape" "text", .noat "Shape" "tree", .noat "Shape" "names", .noat "Shape" "fields", .noat "Shape" "spots", .meth "Shape" "__getitem__", .meth "Shape" "__contains__", .meth "Shape" "__eq__", .meth "Shape" "paths", .cls "Part", .mkr "Part", .noat "Part" "shape", .noat "Part" "token", .noat "Part" "cells", .meth "Part" "__getitem__", .meth "Part" "__setitem__", .meth "Part" "__contains__", .meth "Part" "copied"]
def ex (K : PySem.W.Frag) : Bool := (He.tupB K "KEPT_WORDS" [.str "document", .str "update", .str "set", .str "new", .str "edit", .str "merge", .str "then", .str "old", .str "copy"]) && (decide (PySem.W.fnIn K (He.fAd K ("Shape", some "__eq__")) = true)) && (decide (PySem.W.fnIn K (He.fAd K ("Shape", some "__getitem__")) = true)) && (decide (PySem.W.fnIn K (He.fAd K ("Shape", some "__contains__")) = true)) && (decide (PySem.W.fnIn K (He.fAd K ("Part", some "__getitem__")) = true)) && (decide (PySem.W.fnIn K (He.fAd K ("Part", some "__setitem__")) = true)) && (decide (PySem.W.fnIn K (He.fAd K ("Part", some "__contains__")) = true)) && (decide (PySem.W.fnIn K (He.fAd K ("Part", some "copied")) = true)) && (Uo.nfB K (He.ga K "Shape")) && (Uo.noNeB K (He.ga K "Shape")) && (Ve.tyCB K (He.ga K "Shape")) && (Ve.tyCB K (He.ga K "Part")) && (decide (PySem.W.kitOne K (.type "NoneType") (.ref (He.ga K "Part")) = some false)) && (decide (PySem.W.kitOne K (.type "bool") (.ref (He.ga K "Part")) = some false)) && (decide (PySem.W.kitOne K (.type "int") (.ref (He.ga K "Part")) = some false)) && (decide (PySem.W.kitOne K (.type "str") (.ref (He.ga K "Part")) = some false)) && (decide (PySem.W.kitOne K (.type "tuple") (.ref (He.ga K "Part")) = some false)) && (decide (PySem.W.kitOne K (.type "list") (.ref (He.ga K "Part")) = some false)) && (decide (PySem.W.kitOne K (.ref (He.ga K "Part")) (.type "bool") = some false)) && (decide (PySem.W.kitOne K (.ref (He.ga K "Part")) (.type "int") = some false)) && (decide (PySem.W.exmOne K (.ref (He.ga K "BadValues")) (.ref (He.ga K "UnseenwritesError")) = some true)) && (decide (PySem.W.exmOne K (.ref (He.ga K "BadPath")) (.ref (He.ga K "UnseenwritesError")) = some true)) && (decide (PySem.W.exmOne K (.ref (He.ga K "BadPath")) (.ref (He.ga K "BadPath")) = some true)) && (decide (PySem.W.exmOne K (.ref (He.ga K "BadValue")) (.ref (He.ga K "BadPath")) = some false)) && (decide (PySem.W.exmOne K (.ref (He.ga K "BadValue")) (.ref (He.ga K "BadValue")) = some true)) && (decide (PySem.W.kitOne K (.ref (He.ga K "BadValues")) (.ref (He.ga K "BadValues")) = some true)) && (decide (PySem.W.kitOne K (.ref (He.ga K "BadValues")) (.ref (He.ga K "BadValue")) = some false)) && (decide (PySem.W.kitOne K (.ref (He.ga K "BadValues")) (.type "ValueError") = some true)) && (decide (PySem.W.kitOne K (.ref (He.ga K "BadPath")) (.ref (He.ga K "BadPath")) = some true)) && (Wb.mk0B K (He.ga K "Token")) && (PySem.W.noSeq K (He.ga K "Part")) && (Ue.exB K (He.ga K "BadShape") (He.fAd K ("BadShape", some "__init__")) "text") && (Ue.exB K (He.ga K "BadPath") (He.fAd K ("BadPath", some "__init__")) "path") && (Ue.exB K (He.ga K "BadValues") (He.fAd K ("BadValues", some "__init__")) "given") && (Ue.exB K (He.ga K "BadValue") (He.fAd K ("BadValue", some "__init__")) "value") && (Vk.propB K "Shape" "is_plain") && (Vk.propB K "Shape" "plains") && (Vk.propB K "Part" "content")
def pd (x f q : Str) (st : Stmt) : He5.DefA := ⟨fun K => Vk.gAd K x f, f, q, defArgs st, defBody st, defScope st, [], []⟩
def pn : List He5.DefA := [pd "Shape" "is_plain" "Shape.is_plain" s_Shape_is_plain, pd "Shape" "plains" "Shape.plains" s_Shape_plains, pd "Part" "content" "Part.content" s_Part_content]
abbrev R : PySem.W.OpenRow := PySem.W.OpenLaw.row PySem.Challenge.rw_unseenwrites_k07_parts_refused
abbrev hk : PySem.W.Hook := Vk.hookP 6 fa fn pn ex
def ob (s : PySem.W.SharedT) : Vk.AlP := Vk.obsP 6 fa fn pn ex (HandSHeadRun.getT s)
theorem ob_eq (s : PySem.W.SharedT) : ob s = hk.obs s.abs := Vk.obsP_eq (HandSHeadRun.getT_eq s)
abbrev Says (w : World) (h : Heap) (K : PySem.W.Frag) : Prop := Vk.SaysP fa fn pn ex w h K
abbrev loose0 : List Str := ["_wall", "__name__", "UnseenwritesError", "BadShape", "BadPath", "BadValues", "BadValue", "MOST_DEPTH", "MOST_RECORDS", "MOST_PLAINS", "MOST_FIELDS", "LETTERS", "KEPT_WORDS", "is_word", "records_of", "plains_of", "text_of", "scan_word", "scan_shape", "is_bounded", "tree_of", "words_of", "Shape", "is_whole", "are_wholes", "Token", "Part", "_law_start", "_law_draw", "_law_of"]
abbrev loose1 : List Str := ["_law_word", "_law_records", "_law_plains", "_law_depth", "_law_text", "_law_tree", "_law_paths", "_law_made_shape", "_law_number", "_law_odd", "_law_made", "_law_item", "_law_put", "_law_wrong_values"]
abbrev loose : List Str := loose0 ++ loose1
/-! ### what the top has left -/
structure Tx (K : PySem.W.Frag) (mg : Str → Option Value) : Prop where
  ValueError : mg "ValueError" = none
  abs : mg "abs" = none
  all : mg "all" = none
  bool : mg "bool" = none
  int : mg "int" = none
  isinstance : mg "isinstance" = none
  iter : mg "iter" = none
  len : mg "len" = none
  list : mg "list" = none
  max : mg "max" = none
  range : mg "range" = none
  repr : mg "repr" = none
  str : mg "str" = none
  sum : mg "sum" = none
  tuple : mg "tuple" = none
  c_MOST_DEPTH : ∃ t, mg "MOST_DEPTH" = some (.int 3 t)
  c_MOST_RECORDS : ∃ t, mg "MOST_RECORDS" = some (.int 5 t)
  c_MOST_PLAINS : ∃ t, mg "MOST_PLAINS" = some (.int 5 t)
  c_MOST_FIELDS : ∃ t, mg "MOST_FIELDS" = some (.int 3 t)
  c_LETTERS : ∃ t, mg "LETTERS" = some (.str "abcdefghijklmnopqrstuvwxyz" t)
  g_KEPT_WORDS : mg "KEPT_WORDS" = some (.ref (He.ga K "KEPT_WORDS"))
  t_KEPT_WORDS : ∀ H, SqT K H (He.ga K "KEPT_WORDS") [.str "document", .str "update", .str "set", .str "new", .str "edit", .str "merge", .str "then", .str "old", .str "copy"]
  g__wall : mg "_wall" = some (.ref (He.ga K "_wall"))
  g_UnseenwritesError : mg "UnseenwritesError" = some (.ref (He.ga K "UnseenwritesError"))
  g_BadShape : mg "BadShape" = some (.ref (He.ga K "BadShape"))
  g_BadPath : mg "BadPath" = some (.ref (He.ga K "BadPath"))
  g_BadValues : mg "BadValues" = some (.ref (He.ga K "BadValues"))
  g_BadValue : mg "BadValue" = some (.ref (He.ga K "BadValue"))
  g_is_word : mg "is_word" = some (.ref (He.ga K "is_word"))
  g_records_of : mg "records_of" = some (.ref (He.ga K "records_of"))
  g_plains_of : mg "plains_of" = some (.ref (He.ga K "plains_of"))
  g_text_of : mg "text_of" = some (.ref (He.ga K "text_of"))
  g_scan_word : mg "scan_word" = some (.ref (He.ga K "scan_word"))
  g_scan_shape : mg "scan_shape" = some (.ref (He.ga K "scan_shape"))
  g_is_bounded : mg "is_bounded" = some (.ref (He.ga K "is_bounded"))
  g_tree_of : mg "tree_of" = some (.ref (He.ga K "tree_of"))
  g_words_of : mg "words_of" = some (.ref (He.ga K "words_of"))
  g_Shape : mg "Shape" = some (.ref (He.ga K "Shape"))
  g_is_whole : mg "is_whole" = some (.ref (He.ga K "is_whole"))
  g_are_wholes : mg "are_wholes" = some (.ref (He.ga K "are_wholes"))
  g_Token : mg "Token" = some (.ref (He.ga K "Token"))
  g_Part : mg "Part" = some (.ref (He.ga K "Part"))
  g__law_start : mg "_law_start" = some (.ref (He.ga K "_law_start"))
  g__law_draw : mg "_law_draw" = some (.ref (He.ga K "_law_draw"))
  g__law_of : mg "_law_of" = some (.ref (He.ga K "_law_of"))
  g__law_word : mg "_law_word" = some (.ref (He.ga K "_law_word"))
  g__law_records : mg "_law_records" = some (.ref (He.ga K "_law_records"))
  g__law_plains : mg "_law_plains" = some (.ref (He.ga K "_law_plains"))
  g__law_depth : mg "_law_depth" = some (.ref (He.ga K "_law_depth"))
  g__law_text : mg "_law_text" = some (.ref (He.ga K "_law_text"))
  g__law_tree : mg "_law_tree" = some (.ref (He.ga K "_law_tree"))
  g__law_paths : mg "_law_paths" = some (.ref (He.ga K "_law_paths"))
  g__law_made_shape : mg "_law_made_shape" = some (.ref (He.ga K "_law_made_shape"))
  g__law_number : mg "_law_number" = some (.ref (He.ga K "_law_number"))
  g__law_odd : mg "_law_odd" = some (.ref (He.ga K "_law_odd"))
  g__law_made : mg "_law_made" = some (.ref (He.ga K "_law_made"))
  g__law_item : mg "_law_item" = some (.ref (He.ga K "_law_item"))
  g__law_put : mg "_law_put" = some (.ref (He.ga K "_law_put"))
  g__law_wrong_values : mg "_law_wrong_values" = some (.ref (He.ga K "_law_wrong_values"))
  g_law : mg "law" = some (.ref (He.ga K "law"))
  fi_eq : PySem.W.fnIn K (He.fAd K ("Shape", some "__eq__")) = true
  fi_get : PySem.W.fnIn K (He.fAd K ("Shape", some "__getitem__")) = true
  fi_con : PySem.W.fnIn K (He.fAd K ("Shape", some "__contains__")) = true
  fi_pget : PySem.W.fnIn K (He.fAd K ("Part", some "__getitem__")) = true
  fi_pset : PySem.W.fnIn K (He.fAd K ("Part", some "__setitem__")) = true
  fi_pcon : PySem.W.fnIn K (He.fAd K ("Part", some "__contains__")) = true
  fi_copied : PySem.W.fnIn K (He.fAd K ("Part", some "copied")) = true
  nf : Uo.NF K (He.ga K "Shape")
  nn : Uo.NoNe K (He.ga K "Shape")
  ty : Ve.TyC K (He.ga K "Shape")
  tyP : Ve.TyC K (He.ga K "Part")
  kp_NoneType : PySem.W.kitOne K (.type "NoneType") (.ref (He.ga K "Part")) = some false
  kp_bool : PySem.W.kitOne K (.type "bool") (.ref (He.ga K "Part")) = some false
  kp_int : PySem.W.kitOne K (.type "int") (.ref (He.ga K "Part")) = some false
  kp_str : PySem.W.kitOne K (.type "str") (.ref (He.ga K "Part")) = some false
  kp_tuple : PySem.W.kitOne K (.type "tuple") (.ref (He.ga K "Part")) = some false
  kp_list : PySem.W.kitOne K (.type "list") (.ref (He.ga K "Part")) = some false
  pk_bool : PySem.W.kitOne K (.ref (He.ga K "Part")) (.type "bool") = some false
  pk_int : PySem.W.kitOne K (.ref (He.ga K "Part")) (.type "int") = some false
  em_BadValues : PySem.W.exmOne K (.ref (He.ga K "BadValues")) (.ref (He.ga K "UnseenwritesError")) = some true
  em_BadPath : PySem.W.exmOne K (.ref (He.ga K "BadPath")) (.ref (He.ga K "UnseenwritesError")) = some true
  em_PP : PySem.W.exmOne K (.ref (He.ga K "BadPath")) (.ref (He.ga K "BadPath")) = some true
  em_VP : PySem.W.exmOne K (.ref (He.ga K "BadValue")) (.ref (He.ga K "BadPath")) = some false
  em_VV : PySem.W.exmOne K (.ref (He.ga K "BadValue")) (.ref (He.ga K "BadValue")) = some true
  k_VsVs : PySem.W.kitOne K (.ref (He.ga K "BadValues")) (.ref (He.ga K "BadValues")) = some true
  k_VsV : PySem.W.kitOne K (.ref (He.ga K "BadValues")) (.ref (He.ga K "BadValue")) = some false
  k_VsE : PySem.W.kitOne K (.ref (He.ga K "BadValues")) (.type "ValueError") = some true
  k_PP : PySem.W.kitOne K (.ref (He.ga K "BadPath")) (.ref (He.ga K "BadPath")) = some true
  mkTok : Wb.Mk0 K (He.ga K "Token")
  ns_Part : PySem.W.noSeq K (He.ga K "Part") = true
  x_BadShape : Ue.ExK K (He.ga K "BadShape") (He.fAd K ("BadShape", some "__init__")) "text"
  x_BadPath : Ue.ExK K (He.ga K "BadPath") (He.fAd K ("BadPath", some "__init__")) "path"
  x_BadValues : Ue.ExK K (He.ga K "BadValues") (He.fAd K ("BadValues", some "__init__")) "given"
  x_BadValue : Ue.ExK K (He.ga K "BadValue") (He.fAd K ("BadValue", some "__init__")) "value"
  p_Shape_is_plain : Vk.PropB K "Shape" "is_plain"
  p_Shape_plains : Vk.PropB K "Shape" "plains"
  p_Part_content : Vk.PropB K "Part" "content"
  k_Shape : Cls K (He.ga K "Shape")
  m_Shape : Mk K (He.ga K "Shape") (He.fAd K ("Shape", some "__init__"))
  n_Shape_text : NoAttr K (He.ga K "Shape") "text"
  n_Shape_tree : NoAttr K (He.ga K "Shape") "tree"
  n_Shape_names : NoAttr K (He.ga K "Shape") "names"
  n_Shape_fields : NoAttr K (He.ga K "Shape") "fields"
  n_Shape_spots : NoAttr K (He.ga K "Shape") "spots"
  h_Shape___getitem__ : Meth K (He.ga K "Shape") "__getitem__" (He.fAd K ("Shape", some "__getitem__"))
  h_Shape___contains__ : Meth K (He.ga K "Shape") "__contains__" (He.fAd K ("Shape", some "__contains__"))
  h_Shape___eq__ : Meth K (He.ga K "Shape") "__eq__" (He.fAd K ("Shape", some "__eq__"))
  h_Shape_paths : Meth K (He.ga K "Shape") "paths" (He.fAd K ("Shape", some "paths"))
  k_Part : Cls K (He.ga K "Part")
  m_Part : Mk K (He.ga K "Part") (He.fAd K ("Part", some "__init__"))
  n_Part_shape : NoAttr K (He.ga K "Part") "shape"
  n_Part_token : NoAttr K (He.ga K "Part") "token"
  n_Part_cells : NoAttr K (He.ga K "Part") "cells"
  h_Part___getitem__ : Meth K (He.ga K "Part") "__getitem__" (He.fAd K ("Part", some "__getitem__"))
  h_Part___setitem__ : Meth K (He.ga K "Part") "__setitem__" (He.fAd K ("Part", some "__setitem__"))
  h_Part___contains__ : Meth K (He.ga K "Part") "__contains__" (He.fAd K ("Part", some "__contains__"))
  h_Part_copied : Meth K (He.ga K "Part") "copied" (He.fAd K ("Part", some "copied"))
theorem tx_of {K : PySem.W.Frag} {w : World} {h : Heap} {mg : Str → Option Value} (X : K.In h) (G : h.Ns mainGlobals mg) (c : Says w h K) : Tx K mg where
  ValueError := He.free_ok X G (c.x.t.d.fact 44 (f := .free "ValueError") rfl)
  abs := He.free_ok X G (c.x.t.d.fact 45 (f := .free "abs") rfl)
  all := He.free_ok X G (c.x.t.d.fact 46 (f := .free "all") rfl)
  bool := He.free_ok X G (c.x.t.d.fact 47 (f := .free "bool") rfl)
  int := He.free_ok X G (c.x.t.d.fact 48 (f := .free "int") rfl)
  isinstance := He.free_ok X G (c.x.t.d.fact 49 (f := .free "isinstance") rfl)
  iter := He.free_ok X G (c.x.t.d.fact 50 (f := .free "iter") rfl)
  len := He.free_ok X G (c.x.t.d.fact 51 (f := .free "len") rfl)
  list := He.free_ok X G (c.x.t.d.fact 52 (f := .free "list") rfl)
  max := He.free_ok X G (c.x.t.d.fact 53 (f := .free "max") rfl)
  range := He.free_ok X G (c.x.t.d.fact 54 (f := .free "range") rfl)
  repr := He.free_ok X G (c.x.t.d.fact 55 (f := .free "repr") rfl)
  str := He.free_ok X G (c.x.t.d.fact 56 (f := .free "str") rfl)
  sum := He.free_ok X G (c.x.t.d.fact 57 (f := .free "sum") rfl)
  tuple := He.free_ok X G (c.x.t.d.fact 58 (f := .free "tuple") rfl)
  c_MOST_DEPTH := He.int_ok X G (c.x.t.d.fact 39 (f := .int "MOST_DEPTH" 3) rfl)
  c_MOST_RECORDS := He.int_ok X G (c.x.t.d.fact 40 (f := .int "MOST_RECORDS" 5) rfl)
  c_MOST_PLAINS := He.int_ok X G (c.x.t.d.fact 41 (f := .int "MOST_PLAINS" 5) rfl)
  c_MOST_FIELDS := He.int_ok X G (c.x.t.d.fact 42 (f := .int "MOST_FIELDS" 3) rfl)
  c_LETTERS := He.str_ok X G (c.x.t.d.fact 43 (f := .str "LETTERS" "abcdefghijklmnopqrstuvwxyz") rfl)
  g_KEPT_WORDS := He.glo_ok X G (c.x.t.d.fact 6 (f := .glo "KEPT_WORDS") rfl)
  t_KEPT_WORDS := fun H => He.tupB_ok (x := "KEPT_WORDS") (vs := [.str "document", .str "update", .str "set", .str "new", .str "edit", .str "merge", .str "then", .str "old", .str "copy"]) (He.ba (He.ba (He.ba (He.ba (He.ba (He.ba (He.ba (He.ba (He.ba (He.ba (He.ba (He.ba (He.ba (He.ba (He.ba (He.ba (He.ba (He.ba (He.ba (He.ba (He.ba (He.ba (He.ba (He.ba (He.ba (He.ba (He.ba (He.ba (He.ba (He.ba (He.ba (He.ba (He.ba (He.ba (He.ba (He.ba (He.ba c.more).1).1).1).1).1).1).1).1).1).1).1).1).1).1).1).1).1).1).1).1).1).1).1).1).1).1).1).1).1).1).1).1).1).1).1).1).1 H
  k_Shape := He.cls_ok (c.x.t.d.fact 59 (f := .cls "Shape") rfl)
  m_Shape := He.mkr_ok (c.x.t.d.fact 60 (f := .mkr "Shape") rfl)
  n_Shape_text := He.noat_ok (c.x.t.d.fact 61 (f := .noat "Shape" "text") rfl)
  n_Shape_tree := He.noat_ok (c.x.t.d.fact 62 (f := .noat "Shape" "tree") rfl)
  n_Shape_names := He.noat_ok (c.x.t.d.fact 63 (f := .noat "Shape" "names") rfl)
  n_Shape_fields := He.noat_ok (c.x.t.d.fact 64 (f := .noat "Shape" "fields") rfl)
  n_Shape_spots := He.noat_ok (c.x.t.d.fact 65 (f := .noat "Shape" "spots") rfl)
  h_Shape___getitem__ := He.meth_ok (c.x.t.d.fact 66 (f := .meth "Shape" "__getitem__") rfl)
  h_Shape___contains__ := He.meth_ok (c.x.t.d.fact 67 (f := .meth "Shape" "__contains__") rfl)
  h_Shape___eq__ := He.meth_ok (c.x.t.d.fact 68 (f := .meth "Shape" "__eq__") rfl)
  h_Shape_paths := He.meth_ok (c.x.t.d.fact 69 (f := .meth "Shape" "paths") rfl)
  k_Part := He.cls_ok (c.x.t.d.fact 70 (f := .cls "Part") rfl)
  m_Part := He.mkr_ok (c.x.t.d.fact 71 (f := .mkr "Part") rfl)
  n_Part_shape := He.noat_ok (c.x.t.d.fact 72 (f := .noat "Part" "shape") rfl)
  n_Part_token := He.noat_ok (c.x.t.d.fact 73 (f := .noat "Part" "token") rfl)
  n_Part_cells := He.noat_ok (c.x.t.d.fact 74 (f := .noat "Part" "cells") rfl)
  h_Part___getitem__ := He.meth_ok (c.x.t.d.fact 75 (f := .meth "Part" "__getitem__") rfl)
  h_Part___setitem__ := He.meth_ok (c.x.t.d.fact 76 (f := .meth "Part" "__setitem__") rfl)
  h_Part___contains__ := He.meth_ok (c.x.t.d.fact 77 (f := .meth "Part" "__contains__") rfl)
  h_Part_copied := He.meth_ok (c.x.t.d.fact 78 (f := .meth "Part" "copied") rfl)
  fi_eq := of_decide_eq_true (He.ba (He.ba (He.ba (He.ba (He.ba (He.ba (He.ba (He.ba (He.ba (He.ba (He.ba (He.ba (He.ba (He.ba (He.ba (He.ba (He.ba (He.ba (He.ba (He.ba (He.ba (He.ba (He.ba (He.ba (He.ba (He.ba (He.ba (He.ba (He.ba (He.ba (He.ba (He.ba (He.ba (He.ba (He.ba (He.ba (He.ba c.more).1).1).1).1).1).1).1).1).1).1).1).1).1).1).1).1).1).1).1).1).1).1).1).1).1).1).1).1).1).1).1).1).1).1).1).1).2
  fi_get := of_decide_eq_true (He.ba (He.ba (He.ba (He.ba (He.ba (He.ba (He.ba (He.ba (He.ba (He.ba (He.ba (He.ba (He.ba (He.ba (He.ba (He.ba (He.ba (He.ba (He.ba (He.ba (He.ba (He.ba (He.ba (He.ba (He.ba (He.ba (He.ba (He.ba (He.ba (He.ba (He.ba (He.ba (He.ba (He.ba (He.ba (He.ba c.more).1).1).1).1).1).1).1).1).1).1).1).1).1).1).1).1).1).1).1).1).1).1).1).1).1).1).1).1).1).1).1).1).1).1).1).2
  fi_con := of_decide_eq_true (He.ba (He.ba (He.ba (He.ba (He.ba (He.ba (He.ba (He.ba (He.ba (He.ba (He.ba (He.ba (He.ba (He.ba (He.ba (He.ba (He.ba (He.ba (He.ba (He.ba (He.ba (He.ba (He.ba (He.ba (He.ba (He.ba (He.ba (He.ba (He.ba (He.ba (He.ba (He.ba (He.ba (He.ba (He.ba c.more).1).1).1).1).1).1).1).1).1).1).1).1).1).1).1).1).1).1).1).1).1).1).1).1).1).1).1).1).1).1).1).1).1).1).2
  fi_pget := of_decide_eq_true (He.ba (He.ba (He.ba (He.ba (He.ba (He.ba (He.ba (He.ba (He.ba (He.ba (He.ba (He.ba (He.ba (He.ba (He.ba (He.ba (He.ba (He.ba (He.ba (He.ba (He.ba (He.ba (He.ba (He.ba (He.ba (He.ba (He.ba (He.ba (He.ba (He.ba (He.ba (He.ba (He.ba (He.ba c.more).1).1).1).1).1).1).1).1).1).1).1).1).1).1).1).1).1).1).1).1).1).1).1).1).1).1).1).1).1).1).1).1).1).2
  fi_pset := of_decide_eq_true (He.ba (He.ba (He.ba (He.ba (He.ba (He.ba (He.ba (He.ba (He.ba (He.ba (He.ba (He.ba (He.ba (He.ba (He.ba (He.ba (He.ba (He.ba (He.ba (He.ba (He.ba (He.ba (He.ba (He.ba (He.ba (He.ba (He.ba (He.ba (He.ba (He.ba (He.ba (He.ba (He.ba c.more).1).1).1).1).1).1).1).1).1).1).1).1).1).1).1).1).1).1).1).1).1).1).1).1).1).1).1).1).1).1).1).1).2
  fi_pcon := of_decide_eq_true (He.ba (He.ba (He.ba (He.ba (He.ba (He.ba (He.ba (He.ba (He.ba (He.ba (He.ba (He.ba (He.ba (He.ba (He.ba (He.ba (He.ba (He.ba (He.ba (He.ba (He.ba (He.ba (He.ba (He.ba (He.ba (He.ba (He.ba (He.ba (He.ba (He.ba (He.ba (He.ba c.more).1).1).1).1).1).1).1).1).1).1).1).1).1).1).1).1).1).1).1).1).1).1).1).1).1).1).1).1).1).1).1).2
  fi_copied := of_decide_eq_true (He.ba (He.ba (He.ba (He.ba (He.ba (He.ba (He.ba (He.ba (He.ba (He.ba (He.ba (He.ba (He.ba (He.ba (He.ba (He.ba (He.ba (He.ba (He.ba (He.ba (He.ba (He.ba (He.ba (He.ba (He.ba (He.ba (He.ba (He.ba (He.ba (He.ba (He.ba c.more).1).1).1).1).1).1).1).1).1).1).1).1).1).1).1).1).1).1).1).1).1).1).1).1).1).1).1).1).1).1).2
  nf := Uo.nfB_ok (He.ba (He.ba (He.ba (He.ba (He.ba (He.ba (He.ba (He.ba (He.ba (He.ba (He.ba (He.ba (He.ba (He.ba (He.ba (He.ba (He.ba (He.ba (He.ba (He.ba (He.ba (He.ba (He.ba (He.ba (He.ba (He.ba (He.ba (He.ba (He.ba (He.ba c.more).1).1).1).1).1).1).1).1).1).1).1).1).1).1).1).1).1).1).1).1).1).1).1).1).1).1).1).1).1).2
  nn := Uo.noNeB_ok (He.ba (He.ba (He.ba (He.ba (He.ba (He.ba (He.ba (He.ba (He.ba (He.ba (He.ba (He.ba (He.ba (He.ba (He.ba (He.ba (He.ba (He.ba (He.ba (He.ba (He.ba (He.ba (He.ba (He.ba (He.ba (He.ba (He.ba (He.ba (He.ba c.more).1).1).1).1).1).1).1).1).1).1).1).1).1).1).1).1).1).1).1).1).1).1).1).1).1).1).1).1).2
  ty := Ve.tyCB_ok (He.ba (He.ba (He.ba (He.ba (He.ba (He.ba (He.ba (He.ba (He.ba (He.ba (He.ba (He.ba (He.ba (He.ba (He.ba (He.ba (He.ba (He.ba (He.ba (He.ba (He.ba (He.ba (He.ba (He.ba (He.ba (He.ba (He.ba (He.ba c.more).1).1).1).1).1).1).1).1).1).1).1).1).1).1).1).1).1).1).1).1).1).1).1).1).1).1).1).2
  tyP := Ve.tyCB_ok (He.ba (He.ba (He.ba (He.ba (He.ba (He.ba (He.ba (He.ba (He.ba (He.ba (He.ba (He.ba (He.ba (He.ba (He.ba (He.ba (He.ba (He.ba (He.ba (He.ba (He.ba (He.ba (He.ba (He.ba (He.ba (He.ba (He.ba c.more).1).1).1).1).1).1).1).1).1).1).1).1).1).1).1).1).1).1).1).1).1).1).1).1).1).1).2
  kp_NoneType := of_decide_eq_true (He.ba (He.ba (He.ba (He.ba (He.ba (He.ba (He.ba (He.ba (He.ba (He.ba (He.ba (He.ba (He.ba (He.ba (He.ba (He.ba (He.ba (He.ba (He.ba (He.ba (He.ba (He.ba (He.ba (He.ba (He.ba (He.ba c.more).1).1).1).1).1).1).1).1).1).1).1).1).1).1).1).1).1).1).1).1).1).1).1).1).1).2
  kp_bool := of_decide_eq_true (He.ba (He.ba (He.ba (He.ba (He.ba (He.ba (He.ba (He.ba (He.ba (He.ba (He.ba (He.ba (He.ba (He.ba (He.ba (He.ba (He.ba (He.ba (He.ba (He.ba (He.ba (He.ba (He.ba (He.ba (He.ba c.more).1).1).1).1).1).1).1).1).1).1).1).1).1).1).1).1).1).1).1).1).1).1).1).1).2
  kp_int := of_decide_eq_true (He.ba (He.ba (He.ba (He.ba (He.ba (He.ba (He.ba (He.ba (He.ba (He.ba (He.ba (He.ba (He.ba (He.ba (He.ba (He.ba (He.ba (He.ba (He.ba (He.ba (He.ba (He.ba (He.ba (He.ba c.more).1).1).1).1).1).1).1).1).1).1).1).1).1).1).1).1).1).1).1).1).1).1).1).2
  kp_str := of_decide_eq_true (He.ba (He.ba (He.ba (He.ba (He.ba (He.ba (He.ba (He.ba (He.ba (He.ba (He.ba (He.ba (He.ba (He.ba (He.ba (He.ba (He.ba (He.ba (He.ba (He.ba (He.ba (He.ba (He.ba c.more).1).1).1).1).1).1).1).1).1).1).1).1).1).1).1).1).1).1).1).1).1).1).2
  kp_tuple := of_decide_eq_true (He.ba (He.ba (He.ba (He.ba (He.ba (He.ba (He.ba (He.ba (He.ba (He.ba (He.ba (He.ba (He.ba (He.ba (He.ba (He.ba (He.ba (He.ba (He.ba (He.ba (He.ba (He.ba c.more).1).1).1).1).1).1).1).1).1).1).1).1).1).1).1).1).1).1).1).1).1).2
  kp_list := of_decide_eq_true (He.ba (He.ba (He.ba (He.ba (He.ba (He.ba (He.ba (He.ba (He.ba (He.ba (He.ba (He.ba (He.ba (He.ba (He.ba (He.ba (He.ba (He.ba (He.ba (He.ba (He.ba c.more).1).1).1).1).1).1).1).1).1).1).1).1).1).1).1).1).1).1).1).1).2
  pk_bool := of_decide_eq_true (He.ba (He.ba (He.ba (He.ba (He.ba (He.ba (He.ba (He.ba (He.ba (He.ba (He.ba (He.ba (He.ba (He.ba (He.ba (He.ba (He.ba (He.ba (He.ba (He.ba c.more).1).1).1).1).1).1).1).1).1).1).1).1).1).1).1).1).1).1).1).2
  pk_int := of_decide_eq_true (He.ba (He.ba (He.ba (He.ba (He.ba (He.ba (He.ba (He.ba (He.ba (He.ba (He.ba (He.ba (He.ba (He.ba (He.ba (He.ba (He.ba (He.ba (He.ba c.more).1).1).1).1).1).1).1).1).1).1).1).1).1).1).1).1).1).1).2
  em_BadValues := of_decide_eq_true (He.ba (He.ba (He.ba (He.ba (He.ba (He.ba (He.ba (He.ba (He.ba (He.ba (He.ba (He.ba (He.ba (He.ba (He.ba (He.ba (He.ba (He.ba c.more).1).1).1).1).1).1).1).1).1).1).1).1).1).1).1).1).1).2
  em_BadPath := of_decide_eq_true (He.ba (He.ba (He.ba (He.ba (He.ba (He.ba (He.ba (He.ba (He.ba (He.ba (He.ba (He.ba (He.ba (He.ba (He.ba (He.ba (He.ba c.more).1).1).1).1).1).1).1).1).1).1).1).1).1).1).1).1).2
  em_PP := of_decide_eq_true (He.ba (He.ba (He.ba (He.ba (He.ba (He.ba (He.ba (He.ba (He.ba (He.ba (He.ba (He.ba (He.ba (He.ba (He.ba (He.ba c.more).1).1).1).1).1).1).1).1).1).1).1).1).1).1).1).2
  em_VP := of_decide_eq_true (He.ba (He.ba (He.ba (He.ba (He.ba (He.ba (He.ba (He.ba (He.ba (He.ba (He.ba (He.ba (He.ba (He.ba (He.ba c.more).1).1).1).1).1).1).1).1).1).1).1).1).1).1).2
  em_VV := of_decide_eq_true (He.ba (He.ba (He.ba (He.ba (He.ba (He.ba (He.ba (He.ba (He.ba (He.ba (He.ba (He.ba (He.ba (He.ba c.more).1).1).1).1).1).1).1).1).1).1).1).1).1).2
  k_VsVs := of_decide_eq_true (He.ba (He.ba (He.ba (He.ba (He.ba (He.ba (He.ba (He.ba (He.ba (He.ba (He.ba (He.ba (He.ba c.more).1).1).1).1).1).1).1).1).1).1).1).1).2
  k_VsV := of_decide_eq_true (He.ba (He.ba (He.ba (He.ba (He.ba (He.ba (He.ba (He.ba (He.ba (He.ba (He.ba (He.ba c.more).1).1).1).1).1).1).1).1).1).1).1).2
  k_VsE := of_decide_eq_true (He.ba (He.ba (He.ba (He.ba (He.ba (He.ba (He.ba (He.ba (He.ba (He.ba (He.ba c.more).1).1).1).1).1).1).1).1).1).1).2
  k_PP := of_decide_eq_true (He.ba (He.ba (He.ba (He.ba (He.ba (He.ba (He.ba (He.ba (He.ba (He.ba c.more).1).1).1).1).1).1).1).1).1).2
  mkTok := Wb.mk0B_ok (He.ba (He.ba (He.ba (He.ba (He.ba (He.ba (He.ba (He.ba (He.ba c.more).1).1).1).1).1).1).1).1).2
  ns_Part := (He.ba (He.ba (He.ba (He.ba (He.ba (He.ba (He.ba (He.ba c.more).1).1).1).1).1).1).1).2
  x_BadShape := Ue.exB_ok (He.ba (He.ba (He.ba (He.ba (He.ba (He.ba (He.ba c.more).1).1).1).1).1).1).2
  x_BadPath := Ue.exB_ok (He.ba (He.ba (He.ba (He.ba (He.ba (He.ba c.more).1).1).1).1).1).2
  x_BadValues := Ue.exB_ok (He.ba (He.ba (He.ba (He.ba (He.ba c.more).1).1).1).1).2
  x_BadValue := Ue.exB_ok (He.ba (He.ba (He.ba (He.ba c.more).1).1).1).2
  p_Shape_is_plain := Vk.propB_ok (He.ba (He.ba (He.ba c.more).1).1).2
  p_Shape_plains := Vk.propB_ok (He.ba (He.ba c.more).1).2
  p_Part_content := Vk.propB_ok (He.ba c.more).2
  g__wall := He.glo_ok X G (c.x.t.d.fact 0 (f := .glo "_wall") rfl)
  g_UnseenwritesError := He.glo_ok X G (c.x.t.d.fact 1 (f := .glo "UnseenwritesError") rfl)
  g_BadShape := He.glo_ok X G (c.x.t.d.fact 2 (f := .glo "BadShape") rfl)
  g_BadPath := He.glo_ok X G (c.x.t.d.fact 3 (f := .glo "BadPath") rfl)
  g_BadValues := He.glo_ok X G (c.x.t.d.fact 4 (f := .glo "BadValues") rfl)
  g_BadValue := He.glo_ok X G (c.x.t.d.fact 5 (f := .glo "BadValue") rfl)
  g_is_word := He.glo_ok X G (c.x.t.d.fact 7 (f := .glo "is_word") rfl)
  g_records_of := He.glo_ok X G (c.x.t.d.fact 8 (f := .glo "records_of") rfl)
  g_plains_of := He.glo_ok X G (c.x.t.d.fact 9 (f := .glo "plains_of") rfl)
  g_text_of := He.glo_ok X G (c.x.t.d.fact 10 (f := .glo "text_of") rfl)
  g_scan_word := He.glo_ok X G (c.x.t.d.fact 11 (f := .glo "scan_word") rfl)
  g_scan_shape := He.glo_ok X G (c.x.t.d.fact 12 (f := .glo "scan_shape") rfl)
  g_is_bounded := He.glo_ok X G (c.x.t.d.fact 13 (f := .glo "is_bounded") rfl)
  g_tree_of := He.glo_ok X G (c.x.t.d.fact 14 (f := .glo "tree_of") rfl)
  g_words_of := He.glo_ok X G (c.x.t.d.fact 15 (f := .glo "words_of") rfl)
  g_Shape := He.glo_ok X G (c.x.t.d.fact 16 (f := .glo "Shape") rfl)
  g_is_whole := He.glo_ok X G (c.x.t.d.fact 17 (f := .glo "is_whole") rfl)
  g_are_wholes := He.glo_ok X G (c.x.t.d.fact 18 (f := .glo "are_wholes") rfl)
  g_Token := He.glo_ok X G (c.x.t.d.fact 19 (f := .glo "Token") rfl)
  g_Part := He.glo_ok X G (c.x.t.d.fact 20 (f := .glo "Part") rfl)
  g__law_start := He.glo_ok X G (c.x.t.d.fact 21 (f := .glo "_law_start") rfl)
  g__law_draw := He.glo_ok X G (c.x.t.d.fact 22 (f := .glo "_law_draw") rfl)
  g__law_of := He.glo_ok X G (c.x.t.d.fact 23 (f := .glo "_law_of") rfl)
  g__law_word := He.glo_ok X G (c.x.t.d.fact 24 (f := .glo "_law_word") rfl)
  g__law_records := He.glo_ok X G (c.x.t.d.fact 25 (f := .glo "_law_records") rfl)
  g__law_plains := He.glo_ok X G (c.x.t.d.fact 26 (f := .glo "_law_plains") rfl)
  g__law_depth := He.glo_ok X G (c.x.t.d.fact 27 (f := .glo "_law_depth") rfl)
  g__law_text := He.glo_ok X G (c.x.t.d.fact 28 (f := .glo "_law_text") rfl)
  g__law_tree := He.glo_ok X G (c.x.t.d.fact 29 (f := .glo "_law_tree") rfl)
  g__law_paths := He.glo_ok X G (c.x.t.d.fact 30 (f := .glo "_law_paths") rfl)
  g__law_made_shape := He.glo_ok X G (c.x.t.d.fact 31 (f := .glo "_law_made_shape") rfl)
  g__law_number := He.glo_ok X G (c.x.t.d.fact 32 (f := .glo "_law_number") rfl)
  g__law_odd := He.glo_ok X G (c.x.t.d.fact 33 (f := .glo "_law_odd") rfl)
  g__law_made := He.glo_ok X G (c.x.t.d.fact 34 (f := .glo "_law_made") rfl)
  g__law_item := He.glo_ok X G (c.x.t.d.fact 35 (f := .glo "_law_item") rfl)
  g__law_put := He.glo_ok X G (c.x.t.d.fact 36 (f := .glo "_law_put") rfl)
  g__law_wrong_values := He.glo_ok X G (c.x.t.d.fact 37 (f := .glo "_law_wrong_values") rfl)
  g_law := He.glo_ok X G (c.x.t.d.fact 38 (f := .glo "law") rfl)
/-- a def of the top as it stands -/
abbrev Df (K : PySem.W.Frag) (at_ : Str × Option Str) (x q : Str) (st : Stmt) (dvs : List V) (fd : FuncData) : Prop := FunD K x q (defArgs st) (defBody st) (defScope st) dvs [] (He.fAd K at_) fd
theorem df_wall {K : PySem.W.Frag} {w : World} {h : Heap} (c : Says w h K) : ∃ fd, Df K ("_wall", none) "_wall" "_wall" s_wall [] fd := c.x.t.d.def_ 0 (d := dd ("_wall", none) "_wall" "_wall" s_wall []) rfl
theorem df_BadShape___init__ {K : PySem.W.Frag} {w : World} {h : Heap} (c : Says w h K) : ∃ fd, Df K ("BadShape", some "__init__") "__init__" "BadShape.__init__" s_BadShape___init__ [] fd := c.x.t.d.def_ 1 (d := dd ("BadShape", some "__init__") "__init__" "BadShape.__init__" s_BadShape___init__ []) rfl
theorem df_BadPath___init__ {K : PySem.W.Frag} {w : World} {h : Heap} (c : Says w h K) : ∃ fd, Df K ("BadPath", some "__init__") "__init__" "BadPath.__init__" s_BadPath___init__ [] fd := c.x.t.d.def_ 2 (d := dd ("BadPath", some "__init__") "__init__" "BadPath.__init__" s_BadPath___init__ []) rfl
theorem df_BadValues___init__ {K : PySem.W.Frag} {w : World} {h : Heap} (c : Says w h K) : ∃ fd, Df K ("BadValues", some "__init__") "__init__" "BadValues.__init__" s_BadValues___init__ [] fd := c.x.t.d.def_ 3 (d := dd ("BadValues", some "__init__") "__init__" "BadValues.__init__" s_BadValues___init__ []) rfl
theorem df_BadValue___init__ {K : PySem.W.Frag} {w : World} {h : Heap} (c : Says w h K) : ∃ fd, Df K ("BadValue", some "__init__") "__init__" "BadValue.__init__" s_BadValue___init__ [] fd := c.x.t.d.def_ 4 (d := dd ("BadValue", some "__init__") "__init__" "BadValue.__init__" s_BadValue___init__ []) rfl
theorem df_is_word {K : PySem.W.Frag} {w : World} {h : Heap} (c : Says w h K) : ∃ fd, Df K ("is_word", none) "is_word" "is_word" s_is_word [] fd := c.x.t.d.def_ 5 (d := dd ("is_word", none) "is_word" "is_word" s_is_word []) rfl
theorem df_records_of {K : PySem.W.Frag} {w : World} {h : Heap} (c : Says w h K) : ∃ fd, Df K ("records_of", none) "records_of" "records_of" s_records_of [] fd := c.x.t.d.def_ 6 (d := dd ("records_of", none) "records_of" "records_of" s_records_of []) rfl
theorem df_plains_of {K : PySem.W.Frag} {w : World} {h : Heap} (c : Says w h K) : ∃ fd, Df K ("plains_of", none) "plains_of" "plains_of" s_plains_of [] fd := c.x.t.d.def_ 7 (d := dd ("plains_of", none) "plains_of" "plains_of" s_plains_of []) rfl
theorem df_text_of {K : PySem.W.Frag} {w : World} {h : Heap} (c : Says w h K) : ∃ fd, Df K ("text_of", none) "text_of" "text_of" s_text_of [] fd := c.x.t.d.def_ 8 (d := dd ("text_of", none) "text_of" "text_of" s_text_of []) rfl
theorem df_scan_word {K : PySem.W.Frag} {w : World} {h : Heap} (c : Says w h K) : ∃ fd, Df K ("scan_word", none) "scan_word" "scan_word" s_scan_word [] fd := c.x.t.d.def_ 9 (d := dd ("scan_word", none) "scan_word" "scan_word" s_scan_word []) rfl
theorem df_scan_shape {K : PySem.W.Frag} {w : World} {h : Heap} (c : Says w h K) : ∃ fd, Df K ("scan_shape", none) "scan_shape" "scan_shape" s_scan_shape [.int 3] fd := c.x.t.d.def_ 10 (d := dd ("scan_shape", none) "scan_shape" "scan_shape" s_scan_shape [.int 3]) rfl
theorem df_is_bounded {K : PySem.W.Frag} {w : World} {h : Heap} (c : Says w h K) : ∃ fd, Df K ("is_bounded", none) "is_bounded" "is_bounded" s_is_bounded [] fd := c.x.t.d.def_ 11 (d := dd ("is_bounded", none) "is_bounded" "is_bounded" s_is_bounded []) rfl
theorem df_tree_of {K : PySem.W.Frag} {w : World} {h : Heap} (c : Says w h K) : ∃ fd, Df K ("tree_of", none) "tree_of" "tree_of" s_tree_of [] fd := c.x.t.d.def_ 12 (d := dd ("tree_of", none) "tree_of" "tree_of" s_tree_of []) rfl
theorem df_words_of {K : PySem.W.Frag} {w : World} {h : Heap} (c : Says w h K) : ∃ fd, Df K ("words_of", none) "words_of" "words_of" s_words_of [] fd := c.x.t.d.def_ 13 (d := dd ("words_of", none) "words_of" "words_of" s_words_of []) rfl
theorem df_Shape___init__ {K : PySem.W.Frag} {w : World} {h : Heap} (c : Says w h K) : ∃ fd, Df K ("Shape", some "__init__") "__init__" "Shape.__init__" s_Shape___init__ [] fd := c.x.t.d.def_ 14 (d := dd ("Shape", some "__init__") "__init__" "Shape.__init__" s_Shape___init__ []) rfl
theorem df_Shape_paths {K : PySem.W.Frag} {w : World} {h : Heap} (c : Says w h K) : ∃ fd, Df K ("Shape", some "paths") "paths" "Shape.paths" s_Shape_paths [] fd := c.x.t.d.def_ 15 (d := dd ("Shape", some "paths") "paths" "Shape.paths" s_Shape_paths []) rfl
theorem df_Shape_record_paths {K : PySem.W.Frag} {w : World} {h : Heap} (c : Says w h K) : ∃ fd, Df K ("Shape", some "record_paths") "record_paths" "Shape.record_paths" s_Shape_record_paths [] fd := c.x.t.d.def_ 16 (d := dd ("Shape", some "record_paths") "record_paths" "Shape.record_paths" s_Shape_record_paths []) rfl
theorem df_Shape_plain_paths {K : PySem.W.Frag} {w : World} {h : Heap} (c : Says w h K) : ∃ fd, Df K ("Shape", some "plain_paths") "plain_paths" "Shape.plain_paths" s_Shape_plain_paths [] fd := c.x.t.d.def_ 17 (d := dd ("Shape", some "plain_paths") "plain_paths" "Shape.plain_paths" s_Shape_plain_paths []) rfl
theorem df_Shape___getitem__ {K : PySem.W.Frag} {w : World} {h : Heap} (c : Says w h K) : ∃ fd, Df K ("Shape", some "__getitem__") "__getitem__" "Shape.__getitem__" s_Shape___getitem__ [] fd := c.x.t.d.def_ 18 (d := dd ("Shape", some "__getitem__") "__getitem__" "Shape.__getitem__" s_Shape___getitem__ []) rfl
theorem df_Shape___contains__ {K : PySem.W.Frag} {w : World} {h : Heap} (c : Says w h K) : ∃ fd, Df K ("Shape", some "__contains__") "__contains__" "Shape.__contains__" s_Shape___contains__ [] fd := c.x.t.d.def_ 19 (d := dd ("Shape", some "__contains__") "__contains__" "Shape.__contains__" s_Shape___contains__ []) rfl
theorem df_Shape___iter__ {K : PySem.W.Frag} {w : World} {h : Heap} (c : Says w h K) : ∃ fd, Df K ("Shape", some "__iter__") "__iter__" "Shape.__iter__" s_Shape___iter__ [] fd := c.x.t.d.def_ 20 (d := dd ("Shape", some "__iter__") "__iter__" "Shape.__iter__" s_Shape___iter__ []) rfl
theorem df_Shape___eq__ {K : PySem.W.Frag} {w : World} {h : Heap} (c : Says w h K) : ∃ fd, Df K ("Shape", some "__eq__") "__eq__" "Shape.__eq__" s_Shape___eq__ [] fd := c.x.t.d.def_ 21 (d := dd ("Shape", some "__eq__") "__eq__" "Shape.__eq__" s_Shape___eq__ []) rfl
theorem df_Shape___str__ {K : PySem.W.Frag} {w : World} {h : Heap} (c : Says w h K) : ∃ fd, Df K ("Shape", some "__str__") "__str__" "Shape.__str__" s_Shape___str__ [] fd := c.x.t.d.def_ 22 (d := dd ("Shape", some "__str__") "__str__" "Shape.__str__" s_Shape___str__ []) rfl
theorem df_is_whole {K : PySem.W.Frag} {w : World} {h : Heap} (c : Says w h K) : ∃ fd, Df K ("is_whole", none) "is_whole" "is_whole" s_is_whole [] fd := c.x.t.d.def_ 23 (d := dd ("is_whole", none) "is_whole" "is_whole" s_is_whole []) rfl
theorem df_are_wholes {K : PySem.W.Frag} {w : World} {h : Heap} (c : Says w h K) : ∃ fd, Df K ("are_wholes", none) "are_wholes" "are_wholes" s_are_wholes [] fd := c.x.t.d.def_ 24 (d := dd ("are_wholes", none) "are_wholes" "are_wholes" s_are_wholes []) rfl
theorem df_Part___init__ {K : PySem.W.Frag} {w : World} {h : Heap} (c : Says w h K) : ∃ fd, FunD K "__init__" "Part.__init__" (defArgs s_Part___init__) (defBody s_Part___init__) (defScope s_Part___init__) [] [("cells", V.non)] (He.fAd K ("Part", some "__init__")) fd := c.x.t.d.def_ 25 (d := ddK ("Part", some "__init__") "__init__" "Part.__init__" s_Part___init__ [] [("cells", .non)]) rfl
theorem df_Part___getitem__ {K : PySem.W.Frag} {w : World} {h : Heap} (c : Says w h K) : ∃ fd, Df K ("Part", some "__getitem__") "__getitem__" "Part.__getitem__" s_Part___getitem__ [] fd := c.x.t.d.def_ 26 (d := dd ("Part", some "__getitem__") "__getitem__" "Part.__getitem__" s_Part___getitem__ []) rfl
theorem df_Part___setitem__ {K : PySem.W.Frag} {w : World} {h : Heap} (c : Says w h K) : ∃ fd, Df K ("Part", some "__setitem__") "__setitem__" "Part.__setitem__" s_Part___setitem__ [] fd := c.x.t.d.def_ 27 (d := dd ("Part", some "__setitem__") "__setitem__" "Part.__setitem__" s_Part___setitem__ []) rfl
theorem df_Part___contains__ {K : PySem.W.Frag} {w : World} {h : Heap} (c : Says w h K) : ∃ fd, Df K ("Part", some "__contains__") "__contains__" "Part.__contains__" s_Part___contains__ [] fd := c.x.t.d.def_ 28 (d := dd ("Part", some "__contains__") "__contains__" "Part.__contains__" s_Part___contains__ []) rfl
theorem df_Part___iter__ {K : PySem.W.Frag} {w : World} {h : Heap} (c : Says w h K) : ∃ fd, Df K ("Part", some "__iter__") "__iter__" "Part.__iter__" s_Part___iter__ [] fd := c.x.t.d.def_ 29 (d := dd ("Part", some "__iter__") "__iter__" "Part.__iter__" s_Part___iter__ []) rfl
theorem df_Part_same_as {K : PySem.W.Frag} {w : World} {h : Heap} (c : Says w h K) : ∃ fd, Df K ("Part", some "same_as") "same_as" "Part.same_as" s_Part_same_as [] fd := c.x.t.d.def_ 30 (d := dd ("Part", some "same_as") "same_as" "Part.same_as" s_Part_same_as []) rfl
theorem df_Part_copied {K : PySem.W.Frag} {w : World} {h : Heap} (c : Says w h K) : ∃ fd, Df K ("Part", some "copied") "copied" "Part.copied" s_Part_copied [] fd := c.x.t.d.def_ 31 (d := dd ("Part", some "copied") "copied" "Part.copied" s_Part_copied []) rfl
theorem df_Part___eq__ {K : PySem.W.Frag} {w : World} {h : Heap} (c : Says w h K) : ∃ fd, Df K ("Part", some "__eq__") "__eq__" "Part.__eq__" s_Part___eq__ [] fd := c.x.t.d.def_ 32 (d := dd ("Part", some "__eq__") "__eq__" "Part.__eq__" s_Part___eq__ []) rfl
theorem df_Part___str__ {K : PySem.W.Frag} {w : World} {h : Heap} (c : Says w h K) : ∃ fd, Df K ("Part", some "__str__") "__str__" "Part.__str__" s_Part___str__ [] fd := c.x.t.d.def_ 33 (d := dd ("Part", some "__str__") "__str__" "Part.__str__" s_Part___str__ []) rfl
theorem df_law_start {K : PySem.W.Frag} {w : World} {h : Heap} (c : Says w h K) : ∃ fd, Df K ("_law_start", none) "_law_start" "_law_start" s_law_start [] fd := c.x.t.d.def_ 34 (d := dd ("_law_start", none) "_law_start" "_law_start" s_law_start []) rfl
theorem df_law_draw {K : PySem.W.Frag} {w : World} {h : Heap} (c : Says w h K) : ∃ fd, Df K ("_law_draw", none) "_law_draw" "_law_draw" s_law_draw [] fd := c.x.t.d.def_ 35 (d := dd ("_law_draw", none) "_law_draw" "_law_draw" s_law_draw []) rfl
theorem df_law_of {K : PySem.W.Frag} {w : World} {h : Heap} (c : Says w h K) : ∃ fd, Df K ("_law_of", none) "_law_of" "_law_of" s_law_of [] fd := c.x.t.d.def_ 36 (d := dd ("_law_of", none) "_law_of" "_law_of" s_law_of []) rfl
theorem df_law_word {K : PySem.W.Frag} {w : World} {h : Heap} (c : Says w h K) : ∃ fd, Df K ("_law_word", none) "_law_word" "_law_word" s_law_word [] fd := c.x.t.d.def_ 37 (d := dd ("_law_word", none) "_law_word" "_law_word" s_law_word []) rfl
theorem df_law_records {K : PySem.W.Frag} {w : World} {h : Heap} (c : Says w h K) : ∃ fd, Df K ("_law_records", none) "_law_records" "_law_records" s_law_records [] fd := c.x.t.d.def_ 38 (d := dd ("_law_records", none) "_law_records" "_law_records" s_law_records []) rfl
theorem df_law_plains {K : PySem.W.Frag} {w : World} {h : Heap} (c : Says w h K) : ∃ fd, Df K ("_law_plains", none) "_law_plains" "_law_plains" s_law_plains [] fd := c.x.t.d.def_ 39 (d := dd ("_law_plains", none) "_law_plains" "_law_plains" s_law_plains []) rfl
theorem df_law_depth {K : PySem.W.Frag} {w : World} {h : Heap} (c : Says w h K) : ∃ fd, Df K ("_law_depth", none) "_law_depth" "_law_depth" s_law_depth [] fd := c.x.t.d.def_ 40 (d := dd ("_law_depth", none) "_law_depth" "_law_depth" s_law_depth []) rfl
theorem df_law_text {K : PySem.W.Frag} {w : World} {h : Heap} (c : Says w h K) : ∃ fd, Df K ("_law_text", none) "_law_text" "_law_text" s_law_text [] fd := c.x.t.d.def_ 41 (d := dd ("_law_text", none) "_law_text" "_law_text" s_law_text []) rfl
theorem df_law_tree {K : PySem.W.Frag} {w : World} {h : Heap} (c : Says w h K) : ∃ fd, Df K ("_law_tree", none) "_law_tree" "_law_tree" s_law_tree [] fd := c.x.t.d.def_ 42 (d := dd ("_law_tree", none) "_law_tree" "_law_tree" s_law_tree []) rfl
theorem df_law_paths {K : PySem.W.Frag} {w : World} {h : Heap} (c : Says w h K) : ∃ fd, Df K ("_law_paths", none) "_law_paths" "_law_paths" s_law_paths [] fd := c.x.t.d.def_ 43 (d := dd ("_law_paths", none) "_law_paths" "_law_paths" s_law_paths []) rfl
theorem df_law_made_shape {K : PySem.W.Frag} {w : World} {h : Heap} (c : Says w h K) : ∃ fd, Df K ("_law_made_shape", none) "_law_made_shape" "_law_made_shape" s_law_made_shape [] fd := c.x.t.d.def_ 44 (d := dd ("_law_made_shape", none) "_law_made_shape" "_law_made_shape" s_law_made_shape []) rfl
theorem df_law_number {K : PySem.W.Frag} {w : World} {h : Heap} (c : Says w h K) : ∃ fd, Df K ("_law_number", none) "_law_number" "_law_number" s_law_number [] fd := c.x.t.d.def_ 45 (d := dd ("_law_number", none) "_law_number" "_law_number" s_law_number []) rfl
theorem df_law_odd {K : PySem.W.Frag} {w : World} {h : Heap} (c : Says w h K) : ∃ fd, Df K ("_law_odd", none) "_law_odd" "_law_odd" s_law_odd [] fd := c.x.t.d.def_ 46 (d := dd ("_law_odd", none) "_law_odd" "_law_odd" s_law_odd []) rfl
theorem df_law_made {K : PySem.W.Frag} {w : World} {h : Heap} (c : Says w h K) : ∃ fd, Df K ("_law_made", none) "_law_made" "_law_made" s_law_made [] fd := c.x.t.d.def_ 47 (d := dd ("_law_made", none) "_law_made" "_law_made" s_law_made []) rfl
theorem df_law_item {K : PySem.W.Frag} {w : World} {h : Heap} (c : Says w h K) : ∃ fd, Df K ("_law_item", none) "_law_item" "_law_item" s_law_item [] fd := c.x.t.d.def_ 48 (d := dd ("_law_item", none) "_law_item" "_law_item" s_law_item []) rfl
theorem df_law_put {K : PySem.W.Frag} {w : World} {h : Heap} (c : Says w h K) : ∃ fd, Df K ("_law_put", none) "_law_put" "_law_put" s_law_put [] fd := c.x.t.d.def_ 49 (d := dd ("_law_put", none) "_law_put" "_law_put" s_law_put []) rfl
theorem df_law_wrong_values {K : PySem.W.Frag} {w : World} {h : Heap} (c : Says w h K) : ∃ fd, Df K ("_law_wrong_values", none) "_law_wrong_values" "_law_wrong_values" s_law_wrong_values [] fd := c.x.t.d.def_ 50 (d := dd ("_law_wrong_values", none) "_law_wrong_values" "_law_wrong_values" s_law_wrong_values []) rfl
theorem df_law {K : PySem.W.Frag} {w : World} {h : Heap} (c : Says w h K) : ∃ fd, Df K ("law", none) "law" "law" s_law [] fd := c.x.t.d.def_ 51 (d := dd ("law", none) "law" "law" s_law []) rfl
theorem df_Shape_is_plain {K : PySem.W.Frag} {w : World} {h : Heap} (c : Says w h K) : ∃ fd, FunD K "is_plain" "Shape.is_plain" (defArgs s_Shape_is_plain) (defBody s_Shape_is_plain) (defScope s_Shape_is_plain) [] [] (Vk.gAd K "Shape" "is_plain") fd := c.get 0 (d := pd "Shape" "is_plain" "Shape.is_plain" s_Shape_is_plain) rfl
theorem df_Shape_plains {K : PySem.W.Frag} {w : World} {h : Heap} (c : Says w h K) : ∃ fd, FunD K "plains" "Shape.plains" (defArgs s_Shape_plains) (defBody s_Shape_plains) (defScope s_Shape_plains) [] [] (Vk.gAd K "Shape" "plains") fd := c.get 1 (d := pd "Shape" "plains" "Shape.plains" s_Shape_plains) rfl
theorem df_Part_content {K : PySem.W.Frag} {w : World} {h : Heap} (c : Says w h K) : ∃ fd, FunD K "content" "Part.content" (defArgs s_Part_content) (defBody s_Part_content) (defScope s_Part_content) [] [] (Vk.gAd K "Part" "content") fd := c.get 2 (d := pd "Part" "content" "Part.content" s_Part_content) rfl
end Lx

namespace Lx
open PySem PySem.Spec PyProof.Rows L2 Ub Ur
section
variable {P : Program} {w : World} {K : PySem.W.Frag} {mg : Str → Option Value} {base : Heap}
theorem sc_law_draw : FnScope ["_law_state", "_law_many", "_law_great", "_law_lesser", "_law_digit", "_law_own", "_law_mixed"] ["_law_state", "_law_many"] (defScope s_law_draw) := ⟨rfl, rfl, rfl, by decide +kernel, rfl, by decide +kernel, by decide +kernel⟩
theorem ok_law_draw {f : Addr} {fd : FuncData} {k : Nat} (F : FunD K "_law_draw" "_law_draw" (defArgs s_law_draw) (defBody s_law_draw) (defScope s_law_draw) [] [] f fd) (T : Tx K mg) : FnOk P w K mg base CX0 (k + 1) f fd ["_law_state", "_law_many"] sp_draw := by
  refine F.ok sc_law_draw (fun vs H Q E h => ?_) (fun cdv A outer s H vs Q E hr h => ?_)
  · obtain ⟨st, g, l, m, rfl, _⟩ := h
    rfl
  · obtain ⟨st, g, l, m, rfl, m0, m1, S, q⟩ := h
    have hu := hu_of hr
    refine ⟨_, PSs.nox (pss_cons (ps_augS (pv 0) pe_int (get_listK K) pe_int ip_add set_list)
      (pss_cons (ps_par (i := 2) (j := 3) (by rfl) sc_law_draw.nd rfl rfl (by decide) rfl rfl (pa_cons (pe_ix (ix_listK K) (pv 0) pe_int (fun _ _ => rfl)) (pa_cons (pe_ix (ix_listK K) (pv 0) pe_int (fun _ _ => rfl)) pa_nil)) (by rfl))
      (pss_cons (ps_while PassesOwn.never (PW.pt (pw_and (pt_truthK K (pv 2) (by intro _; rfl)) (pw_and1 (pt_cmpR op_eq (pe_ix (ix_listK K) (pv 2) pe_int (fun _ _ => rfl)) pe_int (nomark _)))))
        (pss_one (ps_expr (pe_bmK K PySem.F.plainAttrs_list PySem.F.slot_list_pop PySem.F.type_list_pop mt_popAt (pv 2) (pa_cons pe_int pa_nil)))))
      (pss_cons (ps_if (pt_truthK K (pv 2) (by intro _; rfl))
        (pss_cons (ps_set (i := 4) sc_law_draw.nd rfl (by first | exact Or.inl rfl | exact Or.inr rfl) (pe_op op_mod (pe_callTy call_int1 (by rfl) T.int (by decide +kernel) (pa_cons (pe_ix (ix_listK K) (pv 2) pe_int (fun _ _ => rfl)) pa_nil)) (pv 1)))
          (pss_cons (ps_asg (pe_op op_fdivW (pe_ix (ix_listK K) (pv 2) pe_int (fun _ _ => rfl)) (pv 1)) (pg_sub (pv 2) pe_int set_list))
          (pss_one (ps_ret (pv 4)))))
        pss_nil)
      (pss_cons (ps_set (i := 5) sc_law_draw.nd rfl (by first | exact Or.inl rfl | exact Or.inr rfl) (pe_ifExp (pt_truthK K (pv 3) (by intro _; rfl)) (pe_ix (ix_listK K) (pv 3) (pe_op op_mod (pe_callTy call_int1 (by rfl) T.int (by decide +kernel) (pa_cons (pe_ix (ix_listK K) (pv 0) pe_int (fun _ _ => rfl)) pa_nil)) (pe_callB (call_len_seqK K) (by rfl) T.len (by decide +kernel) (pa_cons (pv 3) pa_nil))) (fun _ _ => rfl)) pe_int))
      (pss_cons (ps_asg (pe_op op_mod (pe_callTy call_int1 (by rfl) T.int (by decide +kernel) (pa_cons (pe_op op_add (pe_op op_add (pe_op op_add (pe_op op_mul (pe_ix (ix_listK K) (pv 0) pe_int (fun _ _ => rfl)) pe_int) (pe_op op_mul (pv 5) pe_int)) (pe_op op_mul (pe_ix (ix_listK K) (pv 0) pe_int (fun _ _ => rfl)) pe_int)) pe_int) pa_nil)) pe_int) (pg_sub (pv 0) pe_int set_list))
      (pss_cons (ps_set (i := 6) sc_law_draw.nd rfl (by first | exact Or.inl rfl | exact Or.inr rfl) (pe_op op_mod (pe_callTy call_int1 (by rfl) T.int (by decide +kernel) (pa_cons (pe_op op_add (pe_op op_mul (pe_ix (ix_listK K) (pv 0) pe_int (fun _ _ => rfl)) (pe_ix (ix_listK K) (pv 0) pe_int (fun _ _ => rfl))) (pe_op op_mul (pe_ix (ix_listK K) (pv 0) pe_int (fun _ _ => rfl)) pe_int)) pa_nil)) pe_int))
      (pss_one (ps_ret (pe_op op_mod (pe_callTy call_int1 (by rfl) T.int (by decide +kernel) (pa_cons (pe_op op_fdivW (pv 6) pe_int) pa_nil)) (pv 1))))))))))), ?_⟩
    obtain ⟨⟨gs, ls, c, a, h1, h2, h3, lg, ll, a0, a1⟩, n1, n2, n3⟩ := S
    -- state[2] += 1
    refine ⟨.ref st, rfl, st, _, 2, .int c, rfl, rfl, .inl (.inl h1), by decide, rfl, c, 1, rfl, rfl, st, _, 2, 2, rfl, rfl, h1, rfl, ?_⟩
    have e1 : (upd H st (.lst [.ref g, .ref l, .int (c + 1), .int a])) st = some (.lst [.ref g, .ref l, .int (c + 1), .int a]) := upd_same
    -- great, lesser = state[0], state[1]
    refine ⟨.ref st, rfl, st, _, 0, .ref g, rfl, rfl, .inl (.inl e1), rfl, .ref st, rfl, st, _, 1, .ref l, rfl, rfl, .inl (.inl e1), rfl, .ref g, .ref l, rfl, ?_⟩
    -- while great and great[0] == 0
    refine ⟨fun n σ H1 => ∃ gs', n = gs'.length ∧ σ = [some (.ref st), some (.int m), some (.ref g), some (.ref l), none, none, none] ∧ DrI H H1 st g l gs' ls (c + 1) a, ⟨_, gs, rfl, rfl, e1, ?_, ?_, lg, ?_⟩, ?_⟩
    · rw [upd_ne n1.symm]; exact h2
    · rw [upd_ne n2.symm]; exact h3
    · intro b o e b1 _ _; rw [upd_ne b1]; exact e
    rintro n σ H1 ⟨gs', rfl, rfl, I⟩
    cases gs' with
    | nil =>
      refine ⟨.ref g, rfl, false, .inl ⟨_, .inl (.inl I.h2), rfl⟩, ?_⟩
      refine iteF ?_
      refine iteF ?_
      -- if great
      refine ⟨.ref g, rfl, false, .inl ⟨_, .inl (.inl I.h2), rfl⟩, iteF ?_⟩
      -- own
      dsimp only [tNext]
      refine asgS (fun v H' => H' = H1 ∧ ∃ o : Int, v = .int o) (fun Q' hQ' => ?_) ?_
      · cases ls with
        | nil => exact ⟨.ref l, rfl, false, .inl ⟨_, .inl (.inl I.h3), rfl⟩, iteF (hQ' _ _ ⟨rfl, 5, rfl⟩)⟩
        | cons y ys =>
          have h0 : (0 : Int) < (((y :: ys).map V.int).length : Int) := by rw [List.length_map, List.length_cons]; omega
          have h5 := Int.emod_nonneg (c + 1) (Int.ne_of_gt h0)
          have h6 := Int.emod_lt_of_pos (c + 1) h0
          obtain ⟨j, hj⟩ : ∃ j : Nat, (c + 1) % (((y :: ys).map V.int).length : Int) = (j : Int) := ⟨_, (Int.toNat_of_nonneg h5).symm⟩
          have hlt : j < (y :: ys).length := by
            rw [hj, List.length_map] at h6
            omega
          have hget : ((y :: ys).map V.int)[j]? = some (.int (y :: ys)[j]) := by
            rw [List.getElem?_map, List.getElem?_eq_getElem hlt]
            rfl
          refine ⟨.ref l, rfl, true, .inl ⟨_, .inl (.inl I.h3), rfl⟩, iteT ?_⟩
          refine ⟨.ref l, rfl, .ref st, rfl, st, _, 2, .int (c + 1), rfl, rfl, .inl (.inl I.h1), rfl, .inl ⟨_, rfl, .ref l, rfl, l, _, rfl, .inl (.inl (.inl I.h3)), _, _, rfl, rfl, h0, l, _, _, .int (y :: ys)[j], rfl, rfl, .inl (.inl I.h3), at_of hj hget, hQ' _ _ ⟨rfl, (y :: ys)[j], rfl⟩⟩⟩
      rintro v H' ⟨rfl, o, rfl⟩
      -- state[3] = ..
      refine ⟨.ref st, rfl, st, _, 3, .int a, rfl, rfl, .inl (.inl I.h1), rfl, a, 69621, rfl, rfl, mulR (by decide), .int o, rfl, o, 48271, rfl, rfl, mulR (by decide), _, _, rfl, rfl, .ref st, rfl, st, _, 2, .int (c + 1), rfl, rfl, .inl (.inl I.h1), rfl, _, _, rfl, rfl, mulR (by decide), _, _, rfl, rfl, _, _, rfl, rfl, .inl ⟨_, rfl, _, _, rfl, rfl, by show (0 : Int) < 2305843009213693951; decide, ?_⟩⟩
      dsimp only
      generalize ha' : (a * 69621 + o * 48271 + (c + 1) * 40014 + 7) % 2305843009213693951 = a'
      have b0 : 0 ≤ a' := by rw [← ha']; exact Int.emod_nonneg _ (by decide)
      have b1 : a' < 2305843009213693951 := by rw [← ha']; exact Int.emod_lt_of_pos _ (by decide)
      refine ⟨.ref st, rfl, st, _, 3, 3, rfl, rfl, I.h1, rfl, ?_⟩
      have e2 : (upd H' st (.lst [.ref g, .ref l, .int (c + 1), .int a'])) st = some (.lst [.ref g, .ref l, .int (c + 1), .int a']) := upd_same
      -- mixed
      refine ⟨.ref st, rfl, st, _, 3, .int a', rfl, rfl, .inl (.inl e2), rfl, .ref st, rfl, st, _, 3, .int a', rfl, rfl, .inl (.inl e2), rfl, a', a', rfl, rfl, mulR (by omega), .ref st, rfl, st, [.ref g, .ref l, .int (c + 1), .int a'], 2, .int (c + 1), rfl, rfl, .inl (.inl e2), rfl, _, _, rfl, rfl, mulR (by decide), _, _, rfl, rfl, .inl ⟨_, rfl, _, _, rfl, rfl, by show (0 : Int) < 2305843009213693921; decide, ?_⟩⟩
      -- return
      refine ⟨_, rfl, _, _, rfl, rfl, m100 (by decide) (by decide), .inl ⟨_, rfl, .int m, rfl, _, _, rfl, rfl, m0, ?_⟩⟩
      refine q _ _ (Int.emod_nonneg _ (Int.ne_of_gt m0)) (Int.emod_lt_of_pos _ m0) ⟨⟨[], ls, c + 1, a', e2, ?_, ?_, by decide, ll, b0, by omega⟩, n1, n2, n3⟩ ?_
      · rw [upd_ne n1.symm]; exact I.h2
      · rw [upd_ne n2.symm]; exact I.h3
      · intro b o e b1 b2 b3; rw [upd_ne b1]; exact I.kp b o e b1 b2 b3
    | cons z r =>
      refine ⟨.ref g, rfl, true, .inl ⟨_, .inl (.inl I.h2), rfl⟩, ?_⟩
      refine iteT ?_
      refine ⟨.ref g, rfl, g, _, 0, .int z, rfl, rfl, .inl (.inl I.h2), at0, rfl, _, rfl, ite2 (fun e => ?_) (fun e => ?_)⟩
      · -- great.pop(0)
        refine ⟨fun σ' H' => σ' = [some (.ref st), some (.int m), some (.ref g), some (.ref l), none, none, none] ∧ DrI H H' st g l r ls (c + 1) a, ?_, ?_⟩
        · rintro σ' H' ⟨rfl, I'⟩
          exact ⟨r.length, Nat.lt_succ_self _, r, rfl, rfl, I'⟩
        · refine ⟨.ref g, rfl, .inl ⟨rfl, _, .inl (.inl I.h2)⟩, g, _, 0, 0, .int z, rfl, rfl, I.h2, by decide, by decide, ?_, rfl, rfl, ⟨?_, ?_, ?_, ?_, ?_⟩⟩
          · show seqIndex? 0 ((z :: r).map V.int).length = some 0
            unfold seqIndex?
            simp
          · rw [upd_ne n1]; exact I.h1
          · exact upd_same
          · rw [upd_ne n3.symm]; exact I.h3
          · have := I.lg; rw [List.length_cons] at this; omega
          · intro b o e b1 b2 b3; rw [upd_ne b2]; exact I.kp b o e b1 b2 b3
      · -- if great
        refine ⟨.ref g, rfl, true, .inl ⟨_, .inl (.inl I.h2), rfl⟩, iteT ?_⟩
        refine ⟨.ref g, rfl, g, _, 0, .int z, rfl, rfl, .inl (.inl I.h2), at0, .inl ⟨_, rfl, .int m, rfl, _, _, rfl, rfl, m0, ?_⟩⟩
        refine ⟨.ref g, rfl, g, _, 0, .int z, rfl, rfl, .inl (.inl I.h2), at0, .int m, rfl, _, _, rfl, rfl, m100 m0 m1, .ref g, rfl, g, _, 0, 0, rfl, rfl, I.h2, ix0, ?_⟩
        refine ⟨_, rfl, ?_⟩
        refine q _ _ (Int.emod_nonneg _ (Int.ne_of_gt m0)) (Int.emod_lt_of_pos _ m0) ⟨⟨(z / m) :: r, ls, c + 1, a, ?_, upd_same, ?_, I.lg, ll, a0, a1⟩, n1, n2, n3⟩ ?_
        · rw [upd_ne n1]; exact I.h1
        · rw [upd_ne n3.symm]; exact I.h3
        · intro b o e b1 b2 b3; rw [upd_ne b2]; exact I.kp b o e b1 b2 b3
theorem sc_law_start : FnScope ["_law_script", "_law_cells", "_law_great", "_law_lesser", "_law_cell"] ["_law_script"] (defScope s_law_start) := ⟨rfl, rfl, rfl, by decide +kernel, rfl, by decide +kernel, by decide +kernel⟩
theorem ok_law_start {f : Addr} {fd : FuncData} {k : Nat} (F : FunD K "_law_start" "_law_start" (defArgs s_law_start) (defBody s_law_start) (defScope s_law_start) [] [] f fd) (T : Tx K mg) : FnOk P w K mg base CX0 (k + 1) f fd ["_law_script"] (sp_start K) := by
  refine F.ok sc_law_start (fun vs H Q E h => ?_) (fun cdv A outer s H vs Q E hr h => ?_)
  · obtain ⟨a, ns, rfl, _⟩ := h
    rfl
  · obtain ⟨a, ns, rfl, hS, hl, q⟩ := h
    refine ⟨_, PSs.nox (pss_cons (ps_setLc (i := 1) (own := [("_law_cell", 4)]) (by rfl) sc_law_start.nd rfl rfl (sw_true rfl rfl rfl (by decide +kernel)) (pi_listK K (pe_slice (sl_listK K) (pv 0) po_none (po_some pe_int))) (blkOk_by (N := ["_law_script", "_law_cells", "_law_great", "_law_lesser", "_law_cell"]) (sc := (defScope s_law_start)) (by decide +kernel)) (fun _ _ _ _ _ => (pg_name (i := 4) sc_law_start.nd rfl (by first | exact Or.inl rfl | exact Or.inr rfl))) (fun _ _ _ _ _ => pts_nil) (fun _ _ _ _ _ => (pe_callTy call_int1 (by rfl) T.int (by decide +kernel) (pa_cons (pv 4) pa_nil))))
      (pss_cons (ps_setLc (i := 2) (own := [("_law_cell", 4)]) (by rfl) sc_law_start.nd rfl rfl (sw_true rfl rfl rfl (by decide +kernel)) (pi_listK K (pv 1)) (blkOk_by (N := ["_law_script", "_law_cells", "_law_great", "_law_lesser", "_law_cell"]) (sc := (defScope s_law_start)) (by decide +kernel)) (fun _ _ _ _ _ => (pg_name (i := 4) sc_law_start.nd rfl (by first | exact Or.inl rfl | exact Or.inr rfl))) (fun _ _ _ _ _ => pts_one (pt_cmpR op_ge (pe_callB call_abs (by rfl) T.abs (by decide +kernel) (pa_cons (pv 4) pa_nil)) (pe_op op_pow pe_int pe_int) (nomark _))) (fun _ _ _ _ _ => (pe_callB call_abs (by rfl) T.abs (by decide +kernel) (pa_cons (pv 4) pa_nil))))
      (pss_cons (ps_setLc (i := 3) (own := [("_law_cell", 4)]) (by rfl) sc_law_start.nd rfl rfl (sw_true rfl rfl rfl (by decide +kernel)) (pi_listK K (pv 1)) (blkOk_by (N := ["_law_script", "_law_cells", "_law_great", "_law_lesser", "_law_cell"]) (sc := (defScope s_law_start)) (by decide +kernel)) (fun _ _ _ _ _ => (pg_name (i := 4) sc_law_start.nd rfl (by first | exact Or.inl rfl | exact Or.inr rfl))) (fun _ _ _ _ _ => pts_one (pt_cmpR op_lt (pe_callB call_abs (by rfl) T.abs (by decide +kernel) (pa_cons (pv 4) pa_nil)) (pe_op op_pow pe_int pe_int) (nomark _))) (fun _ _ _ _ _ => (pe_op op_add (pe_op op_mod (pe_callTy call_int1 (by rfl) T.int (by decide +kernel) (pa_cons (pv 4) pa_nil)) pe_int) pe_int)))
      (pss_one (ps_ret (pe_lst (pa_cons (pv 2) (pa_cons (pv 3) (pa_cons pe_int (pa_cons (pe_op op_add pe_int (pe_callB (call_len_seqK K) (by rfl) T.len (by decide +kernel) (pa_cons (pv 1) pa_nil))) pa_nil)))))))))), ?_⟩
    obtain ⟨ms, lm, _, em⟩ := cutV_ints ns none (some 63)
    -- cells
    refine ⟨.ref a, rfl, 63, rfl, a, _, rfl, hS, fun p hp => ?_⟩
    rw [em]
    have s0 := same_upd (o := .lst (ms.map V.int)) hp
    refine ⟨p, rfl, ⟨ms.map V.int, .inl (.inl upd_same)⟩, fun C hC => ?_⟩
    refine lcW (walk_list (xs := ms.map V.int)) (liftI fun i => some i) (fun H s => s.seq (.inl (.inl upd_same))) (small63 (by rw [List.length_map]; omega)) hC (fun i x H' hx s' => ?_) (fun H1 s1 d1 => ?_)
    · obtain ⟨z, hz, rfl⟩ := List.mem_map.mp (List.mem_of_getElem? hx)
      intro Q1 Q0 h1 h0
      exact ⟨rfl, _, rfl, .inl ⟨_, rfl, h1 _ _ rfl (Same.refl _)⟩⟩
    rw [fm_lift] at d1
    generalize hcs : (ms.filterMap fun i => some i) = cs at d1
    have lc : cs.length ≤ 63 := by
      have := List.length_filterMap_le (fun i : Int => some i) ms
      rw [← hcs]; omega
    -- great
    refine ⟨_, rfl, C, rfl, ⟨_, .inl (.inl d1)⟩, fun g hg => ?_⟩
    refine lcW (walk_list (xs := cs.map V.int)) (liftI fun i => if (1000000000000000000 : Int) ≤ absI i then some (absI i) else none) (fun H s => s.seq (.inl (.inl d1))) (small63 (by rw [List.length_map]; omega)) hg (fun i x H' hx s' => ?_) (fun H2 s2 d2 => ?_)
    · obtain ⟨z, hz, rfl⟩ := List.mem_map.mp (List.mem_of_getElem? hx)
      intro Q1 Q0 h1 h0
      refine ⟨rfl, _, rfl, z, rfl, 10, 18, rfl, rfl, ⟨by decide, by decide, by decide⟩, _, _, rfl, rfl, _, rfl, ?_⟩
      by_cases hge : (1000000000000000000 : Int) ≤ absI z
      · refine ite2 (fun _ => ?_) (fun e => ?_)
        · exact ⟨_, rfl, z, rfl, h1 _ _ (by show (if (1000000000000000000 : Int) ≤ absI z then some (absI z) else none).map V.int = _; rw [if_pos hge]; rfl) (Same.refl _)⟩
        · exact absurd (decide_eq_true hge) e
      · refine ite2 (fun e => ?_) (fun e => ?_)
        · exact absurd (of_decide_eq_true e) hge
        · exact h0 _ (by show (if (1000000000000000000 : Int) ≤ absI z then some (absI z) else none).map V.int = _; rw [if_neg hge]; rfl) (Same.refl _)
    rw [fm_lift] at d2
    generalize hgs : (cs.filterMap fun i => if (1000000000000000000 : Int) ≤ absI i then some (absI i) else none) = gs at d2
    have lg : gs.length ≤ 63 := by
      have := List.length_filterMap_le (fun i : Int => if (1000000000000000000 : Int) ≤ absI i then some (absI i) else none) cs
      rw [← hgs]; omega
    -- lesser
    refine ⟨_, rfl, C, rfl, ⟨_, .inl (.inl (s2 _ _ d1))⟩, fun l hl' => ?_⟩
    refine lcW (walk_list (xs := cs.map V.int)) (liftI fun i => if absI i < (1000000000000000000 : Int) then some (i % 2147483587 + 1) else none) (fun H s => s.seq (.inl (.inl (s2 _ _ d1)))) (small63 (by rw [List.length_map]; omega)) hl' (fun i x H' hx s' => ?_) (fun H3 s3 d3 => ?_)
    · obtain ⟨z, hz, rfl⟩ := List.mem_map.mp (List.mem_of_getElem? hx)
      intro Q1 Q0 h1 h0
      refine ⟨rfl, _, rfl, z, rfl, 10, 18, rfl, rfl, ⟨by decide, by decide, by decide⟩, _, _, rfl, rfl, _, rfl, ?_⟩
      by_cases hge : absI z < (1000000000000000000 : Int)
      · refine ite2 (fun _ => ?_) (fun e => ?_)
        · refine ⟨_, rfl, .inl ⟨_, rfl, _, _, rfl, rfl, by show (0 : Int) < 2147483587; decide, _, _, rfl, rfl, h1 _ _ ?_ (Same.refl _)⟩⟩
          show (if absI z < (1000000000000000000 : Int) then some (z % 2147483587 + 1) else none).map V.int = _
          rw [if_pos hge]; rfl
        · exact absurd (decide_eq_true hge) e
      · refine ite2 (fun e => ?_) (fun e => ?_)
        · exact absurd (of_decide_eq_true e) hge
        · exact h0 _ (by show (if absI z < (1000000000000000000 : Int) then some (z % 2147483587 + 1) else none).map V.int = _; rw [if_neg hge]; rfl) (Same.refl _)
    rw [fm_lift] at d3
    generalize hls : (cs.filterMap fun i => if absI i < (1000000000000000000 : Int) then some (i % 2147483587 + 1) else none) = ls at d3
    have ll : ls.length ≤ 63 := by
      have := List.length_filterMap_le (fun i : Int => if absI i < (1000000000000000000 : Int) then some (i % 2147483587 + 1) else none) cs
      rw [← hls]; omega
    -- return
    refine ⟨_, rfl, _, rfl, _, rfl, C, _, rfl, .inl (.inl (.inl (s3 _ _ (s2 _ _ d1)))), _, _, rfl, rfl, (by show 4 ≤ sizeLine; decide), fun st hst => ?_⟩
    have f1 : H1 st = none := s2.free (s3.free hst)
    have d2' := s3 _ _ d2
    refine q st g l _ (s0.free (s1.free f1)) (s0.free (s1.free hg)) (s0.free (s1.free (s2.free hl'))) ⟨⟨gs, ls, 0, _, upd_same, ?_, ?_, lg, ll, ?_, ?_⟩, (ne_of_none d2' hst).symm, (ne_of_none d3 hst).symm, ne_of_none d2 hl'⟩ ?_
    · rw [upd_ne (ne_of_none d2' hst)]; exact d2'
    · rw [upd_ne (ne_of_none d3 hst)]; exact d3
    · show (0 : Int) ≤ 17 + ((cs.map V.int).length : Int); omega
    · show (17 : Int) + ((cs.map V.int).length : Int) < 4611686018427387904; rw [List.length_map]; omega
    · exact (((s0.trans s1).trans s2).trans s3).trans (same_upd hst)
theorem sc_law_of : FnScope ["_law_state", "_law_some"] ["_law_state", "_law_some"] (defScope s_law_of) := ⟨rfl, rfl, rfl, by decide +kernel, rfl, by decide +kernel, by decide +kernel⟩
theorem ok_law_of {f : Addr} {fd : FuncData} (F : FunD K "_law_of" "_law_of" (defArgs s_law_of) (defBody s_law_of) (defScope s_law_of) [] [] f fd) (T : Tx K mg) (c_law_draw : Cal P w K mg base 1 "_law_draw" ["_law_state", "_law_many"] sp_draw) : FnOk P w K mg base CX0 2 f fd ["_law_state", "_law_some"] sp_of := by
  refine F.ok sc_law_of (fun vs H Q E h => ?_) (fun cdv A outer s H vs Q E hr h => ?_)
  · obtain ⟨st, g, l, p, xs, rfl, _⟩ := h
    rfl
  · obtain ⟨st, g, l, p, xs, rfl, hp, n1, n2, n3, h0, hz, S, q⟩ := h
    refine ⟨_, PSs.nox (pss_one (ps_ret (pe_ix (ix_listK K) (pv 1) (pe_cal c_law_draw (hr.mono (by omega)) (by rfl) (pa_cons (pv 0) (pa_cons (pe_callB (call_len_seqK K) (by rfl) T.len (by decide +kernel) (pa_cons (pv 1) pa_nil)) pa_nil))) (fun _ _ => rfl)))), ?_⟩
    refine ⟨_, rfl, _, rfl, _, rfl, p, xs, rfl, .inl (.inl (.inl hp)), st, g, l, _, rfl, ?_, ?_, S, fun d H' d0 d1 S' k => ?_⟩
    · have : 0 < xs.length := List.length_pos_iff.mpr h0
      omega
    · omega
    · have hp' := k _ _ hp n1 n2 n3
      obtain ⟨j, rfl⟩ : ∃ j : Nat, d = (j : Int) := ⟨d.toNat, by omega⟩
      have hj : j < xs.length := by omega
      exact ixl hp' (atI_nat (List.getElem?_eq_getElem hj)) (q _ _ (List.getElem_mem hj) S' k)
end
end Lx

namespace Lx
open PySem PySem.Spec PyProof.Rows L2 Ub Ur
section
variable {P : Program} {w : World} {K : PySem.W.Frag} {mg : Str → Option Value} {base : Heap}
theorem sc_is_word : FnScope ["text", "letter"] ["text"] (defScope s_is_word) := ⟨rfl, rfl, rfl, by decide +kernel, rfl, by decide +kernel, by decide +kernel⟩
theorem ok_is_word {f : Addr} {fd : FuncData} (F : FunD K "is_word" "is_word" (defArgs s_is_word) (defBody s_is_word) (defScope s_is_word) [] [] f fd) (T : Tx K mg) : FnOk P w K mg base CX0 1 f fd ["text"] (sp_is_word K) := by
  refine F.ok sc_is_word (fun vs H Q E h => ?_) (fun cdv A outer s H vs Q E hr h => ?_)
  · obtain ⟨x, rfl, _⟩ := h
    rfl
  · obtain ⟨x, rfl, h⟩ := h
    refine ⟨_, PSs.nox (pss_cons (ps_if (PW.pt (pw_or (pt_not (pt_val (pe_callB (call_isiK' K) (by rfl) T.isinstance (by decide +kernel) (pa_cons (pv 0) (pa_cons (pe_bltn (v := .ty "str") (by rfl) T.str (by decide +kernel) rfl) pa_nil))))) (pw_or1 (pt_not (pt_chain op_le op_le pe_int (pe_callB call_len_str (by rfl) T.len (by decide +kernel) (pa_cons (pv 0) pa_nil)) pe_int)))))
        (pss_one (ps_ret pe_bl))
        pss_nil)
      (pss_one (ps_ret (pe_and (pe_callB (cr_allK K rfl) (by rfl) T.all (by decide +kernel) (pa_cons (pe_lc (own := [("letter", 1)]) (by rfl) sc_is_word.nd (pi_str (pv 0)) (blkOk_by (N := ["text", "letter"]) (sc := (defScope s_is_word)) (by decide +kernel)) (fun _ _ _ _ _ => (pg_name (i := 1) sc_is_word.nd rfl (by first | exact Or.inl rfl | exact Or.inr rfl))) (fun _ _ _ _ _ => pts_nil) (fun _ _ _ _ _ => (pe_cmpR op_in_sign (pv 1) (pe_globS (by rfl) T.c_LETTERS) (by rfl)))) pa_nil)) (pe_one (pe_cmpR (op_notIn_seqK K) (pv 0) (pe_globR (by rfl) T.g_KEPT_WORDS) (by rfl))))))), ?_⟩
    rcases h with ⟨z, rfl, hz, q⟩ | ⟨⟨t, ht, hk⟩, q⟩
    · refine ⟨_, rfl, _, _, _, _, true, rfl, .ty "str", .base (.str z), kit_ty (by decide +kernel), true, rfl, ?_⟩
      refine iteF ?_
      refine ⟨_, rfl, z, rfl, sz4 hz, _, _, rfl, rfl, _, rfl, ?_⟩
      have el : z.length = z.cps.toList.length := by simp [Str.length]
      by_cases h1 : 1 ≤ z.length
      · refine iteY (by omega) ?_
        refine ⟨_, _, rfl, rfl, _, rfl, ?_⟩
        by_cases h8 : z.length ≤ 8
        · refine iteNN (by omega) ?_
          have e1 : decide (1 ≤ z.length) = true := decide_eq_true h1
          have e2 : decide (z.length ≤ 8) = true := decide_eq_true h8
          have ew : isWord z = (z.cps.toList.all isLet && !inV (.str z) keptV) := by
            unfold isWord
            rw [e1, e2]
            rfl
          rw [ew] at q
          refine ⟨_, rfl, z, rfl, fun D hD => ?_⟩
          refine lcW (walk_strV (z := z)) (liftS fun c => some (.bl (isLet c))) (fun _ _ => trivial) (sz4 (by rw [List.length_map]; omega)) hD (fun i x H' hx s' => ?_) (fun H1 s1 d1 => ?_)
          · obtain ⟨c, hc, rfl⟩ := List.mem_map.mp (List.mem_of_getElem? hx)
            intro Q1 Q0 h1 h0
            exact ⟨rfl, _, rfl, c, letters, rfl, rfl, h1 _ _ rfl (Same.refl _)⟩
          · rw [fm_liftS] at d1
            have eb : (z.cps.toList.filterMap fun c => some (V.bl (isLet c))) = (z.cps.toList.map isLet).map V.bl := by
              rw [List.filterMap_eq_map', List.map_map]
              rfl
            rw [eb] at d1
            refine ⟨D, _, rfl, .inl (.inl d1), _, rfl, ?_⟩
            have ea : (z.cps.toList.map isLet).all id = z.cps.toList.all isLet := by rw [List.all_map]; rfl
            refine iteE ea (fun e => ?_) (fun e => ?_)
            · rw [e] at q
              exact ⟨_, rfl, _, keptV, rfl, .inr (T.t_KEPT_WORDS _), rfl, kept_flat, q _ s1⟩
            · rw [e] at q
              exact q _ s1
        · refine iteNY (by omega) ?_
          have e2 : decide (z.length ≤ 8) = false := decide_eq_false h8
          have ew : isWord z = false := by
            unfold isWord
            rw [e2]
            simp
          rw [ew] at q
          exact q _ (Same.refl _)
      · refine iteN (by omega) ?_
        have e2 : decide (1 ≤ z.length) = false := decide_eq_false h1
        have ew : isWord z = false := by
          unfold isWord
          rw [e2]
          simp
        rw [ew] at q
        refine ⟨_, rfl, ?_⟩
        exact q _ (Same.refl _)
    · refine ⟨_, rfl, _, _, _, _, false, rfl, .ty "str", ht, kit_ty hk, false, rfl, ?_⟩
      exact q _ (Same.refl _)
theorem sc_law_word : FnScope ["_law_state", "_law_taken", "_law_letters", "_law_kept", "_law_many", "_law_drawn", "_law_ways", "_law_turn", "_law_letter", "_law_way"] ["_law_state", "_law_taken"] (defScope s_law_word) := ⟨rfl, rfl, rfl, by decide +kernel, rfl, by decide +kernel, by decide +kernel⟩
theorem ok_law_word {f : Addr} {fd : FuncData} (F : FunD K "_law_word" "_law_word" (defArgs s_law_word) (defBody s_law_word) (defScope s_law_word) [] [] f fd) (T : Tx K mg) (c_law_draw : Cal P w K mg base 1 "_law_draw" ["_law_state", "_law_many"] sp_draw) : FnOk P w K mg base CX0 2 f fd ["_law_state", "_law_taken"] sp_word := by
  refine F.ok sc_law_word (fun vs H Q E h => ?_) (fun cdv A outer s H vs Q E hr h => ?_)
  · obtain ⟨st, g, l, t, taken, rfl, _⟩ := h
    rfl
  · obtain ⟨st, g, l, t, taken, rfl, ht, t1, t2, t3, lt, S, q⟩ := h
    refine ⟨_, PSs.nox (pss_cons (ps_set (i := 2) sc_law_word.nd rfl (by first | exact Or.inl rfl | exact Or.inr rfl) pe_str)
      (pss_cons (ps_set (i := 3) sc_law_word.nd rfl (by first | exact Or.inl rfl | exact Or.inr rfl) (pe_lst (pa_cons pe_str (pa_cons pe_str (pa_cons pe_str (pa_cons pe_str (pa_cons pe_str (pa_cons pe_str (pa_cons pe_str (pa_cons pe_str (pa_cons pe_str pa_nil)))))))))))
      (pss_cons (ps_set (i := 4) sc_law_word.nd rfl (by first | exact Or.inl rfl | exact Or.inr rfl) (pe_op op_add pe_int (pe_cal c_law_draw (hr.mono (by omega)) (by rfl) (pa_cons (pv 0) (pa_cons pe_int pa_nil)))))
      (pss_cons (ps_set (i := 5) sc_law_word.nd rfl (by first | exact Or.inl rfl | exact Or.inr rfl) (pe_join pe_str (pe_lc (own := [("_law_turn", 7)]) (by rfl) sc_law_word.nd (pi_range1 (by rfl) T.range (pa_cons (pv 4) pa_nil)) (blkOk_by (N := ["_law_state", "_law_taken", "_law_letters", "_law_kept", "_law_many", "_law_drawn", "_law_ways", "_law_turn", "_law_letter", "_law_way"]) (sc := (defScope s_law_word)) (by decide +kernel)) (fun _ _ _ _ _ => (pg_name (i := 7) sc_law_word.nd rfl (by first | exact Or.inl rfl | exact Or.inr rfl))) (fun _ _ _ _ _ => pts_nil) (fun _ _ _ _ _ => (pe_ix ix_str (pv 2) (pe_cal c_law_draw (hr.mono (by omega)) (by rfl) (pa_cons (pv 0) (pa_cons pe_int pa_nil))) (fun _ _ => rfl))))))
      (pss_cons (ps_set (i := 6) sc_law_word.nd rfl (by first | exact Or.inl rfl | exact Or.inr rfl) (pe_op op_cat (pe_lst (pa_cons (pv 5) pa_nil)) (pe_lc (own := [("_law_letter", 8)]) (by rfl) sc_law_word.nd (pi_str (pv 2)) (blkOk_by (N := ["_law_state", "_law_taken", "_law_letters", "_law_kept", "_law_many", "_law_drawn", "_law_ways", "_law_turn", "_law_letter", "_law_way"]) (sc := (defScope s_law_word)) (by decide +kernel)) (fun _ _ _ _ _ => (pg_name (i := 8) sc_law_word.nd rfl (by first | exact Or.inl rfl | exact Or.inr rfl))) (fun _ _ _ _ _ => pts_nil) (fun _ _ _ _ _ => (pe_op op_add_str (pe_slice sl_str (pv 5) po_none (po_some pe_int)) (pv 8))))))
      (pss_one (ps_ret (pe_ix (ix_listK K) (pe_lc (own := [("_law_way", 9)]) (by rfl) sc_law_word.nd (pi_listK K (pv 6)) (blkOk_by (N := ["_law_state", "_law_taken", "_law_letters", "_law_kept", "_law_many", "_law_drawn", "_law_ways", "_law_turn", "_law_letter", "_law_way"]) (sc := (defScope s_law_word)) (by decide +kernel)) (fun _ _ _ _ _ => (pg_name (i := 9) sc_law_word.nd rfl (by first | exact Or.inl rfl | exact Or.inr rfl))) (fun _ _ _ _ _ => pts_one (PW.pt (pw_and (pt_cmpR (op_notIn_seqK K) (pv 9) (pv 1) (by rfl)) (pw_and1 (pt_cmpR (op_notIn_seqK K) (pv 9) (pv 3) (by rfl)))))) (fun _ _ _ _ _ => (pv 9))) pe_int (fun _ _ => rfl))))))))), ?_⟩
    -- letters, kept
    refine ⟨(by show 9 ≤ sizeLine; decide), fun k hk => ?_⟩
    have sk := same_upd (o := .lst keptV) hk
    have ek : (upd H k (.lst keptV)) k = some (.lst keptV) := upd_same
    obtain ⟨k1, k2, k3⟩ := S.ne hk
    have S1 := S.same sk
    -- many
    refine ⟨_, rfl, st, g, l, 8, rfl, by decide, by decide, S1, fun d H1 d0 d1 S2 p1 => ?_⟩
    refine ⟨_, _, rfl, rfl, ?_⟩
    obtain ⟨n, rfl⟩ : ∃ n : Nat, d = (n : Int) := ⟨d.toNat, by omega⟩
    have hn : n < 8 := by omega
    have en : (1 + (n : Int)).toNat = n + 1 := by omega
    -- drawn
    refine ⟨⟨_, rfl⟩, _, rfl, _, rfl, by omega, by omega, fun D hD => ?_⟩
    rw [en]
    obtain ⟨D1, D2, D3⟩ := S2.ne hD
    refine lc_range (fun i H2 => StAt H2 st g l ∧ Kp st g l H1 H2 ∧ ∃ ws : List Str, H2 D = some (.lst (ws.map V.str)) ∧ ws.length = i ∧ ∀ x ∈ ws, x.length = 1 ∧ Low x) ?_ (fun i H2 hi hp => ?_) (fun H2 hp => ?_)
    · exact ⟨S2.same (same_upd hD), Kp.of (same_upd hD), [], upd_same, rfl, fun _ h => nomatch h⟩
    · obtain ⟨Sx, px, ws, hD2, lw, hw⟩ := hp
      refine ⟨rfl, _, rfl, _, rfl, st, g, l, 26, rfl, by decide, by decide, Sx, fun d H3 d0 d1 S3 p3 => ?_⟩
      obtain ⟨j, rfl⟩ : ∃ j : Nat, d = (j : Int) := ⟨d.toNat, by omega⟩
      have hj : j < letters.cps.toList.length := by rw [lets_len]; omega
      refine ⟨letters, _, _, rfl, rfl, (by decide +kernel), atI_nat (List.getElem?_eq_getElem hj), ?_⟩
      have hD3 := p3 _ _ hD2 D1 D2 D3
      refine ⟨_, hD3, ?_, ?_, ?_, ws ++ [⟨#[letters.cps.toList[j]]⟩], ?_, ?_, ?_⟩
      · rw [List.length_map]
        exact small1000 (by omega)
      · obtain ⟨⟨gs, ls, c, a, h1, h2, h3, r⟩, n1, n2, n3⟩ := S3
        exact ⟨⟨gs, ls, c, a, by rw [upd_ne D1.symm]; exact h1, by rw [upd_ne D2.symm]; exact h2, by rw [upd_ne D3.symm]; exact h3, r⟩, n1, n2, n3⟩
      · intro b o e b1 b2 b3
        rw [upd_ne (ne_of_none e hD)]
        exact p3 _ _ (px _ _ e b1 b2 b3) b1 b2 b3
      · rw [upd_same, List.map_append]
        rfl
      · rw [List.length_append, lw]; rfl
      · intro x hx
        rcases List.mem_append.mp hx with hx | hx
        · exact hw x hx
        · have e : x = ⟨#[letters.cps.toList[j]]⟩ := by simpa using hx
          subst e
          refine ⟨rfl, fun c hc => ?_⟩
          have e2 : c = letters.cps.toList[j] := by simpa using hc
          rw [e2]
          exact decide_eq_true (List.getElem_mem hj)
    obtain ⟨Sx, px, ws, hD2, lw, hw⟩ := hp
    have slen : (ws.map (·.length)).sum = ws.length := by
      clear hD2 lw
      induction ws with
      | nil => rfl
      | cons x r ih =>
        rw [List.map_cons, List.sum_cons, ih fun y hy => hw y (List.mem_cons_of_mem _ hy), (hw x List.mem_cons_self).1, List.length_cons]
        omega
    refine ⟨"", D, ws, rfl, rfl, .inl (.inl (.inl hD2)), ?_, ?_⟩
    · rw [slen, show (("" : Str)).length = 0 by decide +kernel]
      omega
    rw [TL.join_eq]
    have lowz : Low (Str.join "" ws) := fun c hc => by
      rw [join_cps] at hc
      obtain ⟨x, hx, hcx⟩ := List.mem_flatMap.mp hc
      exact (hw x hx).2 c hcx
    have lenz : (Str.join "" ws).length = n + 1 := by
      rw [← len_toList, join_cps, List.length_flatMap]
      have : (ws.map fun w => w.cps.toList.length) = ws.map (·.length) := List.map_congr_left fun x _ => len_toList x
      rw [this, slen, lw]
    generalize Str.join "" ws = z at *
    -- ways
    refine ⟨_, rfl, (by show 1 ≤ sizeLine; decide), fun e1 ne1 => ?_⟩
    have se := same_upd (o := .lst [.str z]) ne1
    have he1 : (upd H2 e1 (.lst [.str z])) e1 = some (.lst [.str z]) := upd_same
    generalize upd H2 e1 (.lst [.str z]) = H3 at *
    refine ⟨_, rfl, letters, rfl, fun e2 ne2 => ?_⟩
    refine lcW (walk_strV (z := letters)) (liftS fun c => some (.str (way z c))) (fun _ _ => trivial) (sz4 (by rw [List.length_map, lets_len]; decide)) ne2 (fun i x H' hx s' => ?_) (fun H4 s4 d4 => ?_)
    · obtain ⟨c, hc, rfl⟩ := List.mem_map.mp (List.mem_of_getElem? hx)
      intro Q1 Q0 h1 h0
      refine ⟨rfl, _, rfl, 7, rfl, z, rfl, sz4 (by omega), _, rfl, _, _, rfl, rfl, ?_, h1 _ _ rfl (Same.refl _)⟩
      have h7 := cut_7 z
      have e1 : ((⟨#[c]⟩ : Str)).length = 1 := rfl
      rw [e1]
      exact sz4 (by omega)
    rw [fm_liftS] at d4
    have ew : (letters.cps.toList.filterMap fun c => some (V.str (way z c))) = (letters.cps.toList.map (way z)).map V.str := by
      rw [List.filterMap_eq_map', List.map_map]
      rfl
    rw [ew] at d4
    refine ⟨e1, e2, _, _, rfl, rfl, s4 _ _ he1, d4, ?_, fun u nu => ?_⟩
    · rw [List.length_map, List.length_map, lets_len]
      show 1 + 26 ≤ sizeLine
      decide
    have su := same_upd (o := .lst ([.str z] ++ (letters.cps.toList.map (way z)).map V.str)) nu
    have hu : (upd H4 u (.lst ([.str z] ++ (letters.cps.toList.map (way z)).map V.str))) u = some (.lst ((ways z).map V.str)) := upd_same
    generalize upd H4 u (.lst ([.str z] ++ (letters.cps.toList.map (way z)).map V.str)) = H5 at *
    -- return
    have s25 : Same H2 H5 := (se.trans s4).trans su
    have kk : Kp st g l H H5 := (((Kp.of sk).trans p1).trans px).trans (Kp.of s25)
    have ht5 : H5 t = some (.lst (taken.map V.str)) := kk _ _ ht t1 t2 t3
    have hk5 : H5 k = some (.lst keptV) := s25 _ _ (px _ _ (p1 _ _ ek k1 k2 k3) k1 k2 k3)
    refine ⟨_, rfl, u, rfl, ⟨_, .inl (.inl hu)⟩, fun v nv => ?_⟩
    refine lcW (walk_list (xs := (ways z).map V.str)) (fun x => match x with | .str y => if y ∉ taken ∧ y ∉ kept then some (.str y) else none | _ => none) (fun H s => s.seq (.inl (.inl hu))) (sz4 (by rw [List.length_map]; unfold ways; rw [List.length_cons, List.length_map, lets_len]; decide)) nv (fun i x H' hx s' => ?_) (fun H6 s6 d6 => ?_)
    · obtain ⟨y, hy, rfl⟩ := List.mem_map.mp (List.mem_of_getElem? hx)
      intro Q1 Q0 h1 h0
      refine ⟨rfl, _, rfl, _, rfl, t, _, rfl, .inl (.inl (.inl (s' _ _ ht5))), rfl, flat_strs _, _, rfl, ?_⟩
      refine iteE (c := !decide (y ∈ taken)) (by show (!inV (.str y) (taken.map V.str)) = _; rw [inV_str]) (fun e => ?_) (fun e => ?_)
      · have ey : y ∉ taken := by simpa using e
        refine ⟨_, rfl, _, rfl, k, _, rfl, .inl (.inl (.inl (s' _ _ hk5))), rfl, kept_flat, _, rfl, ?_⟩
        refine iteE (c := !decide (y ∈ kept)) (by show (!inV (.str y) keptV) = _; unfold keptV; rw [inV_str]) (fun e2 => ?_) (fun e2 => ?_)
        · have ey2 : y ∉ kept := by simpa using e2
          exact ⟨_, rfl, h1 _ _ (by show (if y ∉ taken ∧ y ∉ kept then some (V.str y) else none) = _; rw [if_pos ⟨ey, ey2⟩]) (Same.refl _)⟩
        · have ey2 : y ∈ kept := by simpa using e2
          exact h0 _ (by show (if y ∉ taken ∧ y ∉ kept then some (V.str y) else none) = _; rw [if_neg fun z => z.2 ey2]) (Same.refl _)
      · have ey : y ∈ taken := by simpa using e
        exact h0 _ (by show (if y ∉ taken ∧ y ∉ kept then some (V.str y) else none) = _; rw [if_neg fun z => z.1 ey]) (Same.refl _)
    have good : ∀ x ∈ ((ways z).map V.str).filterMap (fun x => match x with | .str y => if y ∉ taken ∧ y ∉ kept then some (V.str y) else none | _ => none), ∃ y, x = .str y ∧ isWord y = true ∧ y ∉ taken := fun x hx => by
      obtain ⟨a, ha, e⟩ := List.mem_filterMap.mp hx
      obtain ⟨y, hy, rfl⟩ := List.mem_map.mp ha
      have e2 : (if y ∉ taken ∧ y ∉ kept then some (V.str y) else none) = some x := e
      by_cases hc : y ∉ taken ∧ y ∉ kept
      · rw [if_pos hc] at e2
        refine ⟨y, (Option.some.inj e2).symm, isWord_iff.mpr ?_, hc.1⟩
        unfold ways at hy
        rcases List.mem_cons.mp hy with rfl | hy
        · exact ⟨by omega, by omega, lowz, hc.2⟩
        · obtain ⟨c, hcl, rfl⟩ := List.mem_map.mp hy
          exact ⟨(way_len z c).1, (way_len z c).2, way_low lowz (decide_eq_true hcl), hc.2⟩
      · rw [if_neg hc] at e2
        cases e2
    obtain ⟨c, hc, hb⟩ := ways_ex z (taken ++ kept) (by rw [List.length_append]; have : kept.length = 9 := rfl; omega)
    have hin : V.str (way z c) ∈ ((ways z).map V.str).filterMap (fun x => match x with | .str y => if y ∉ taken ∧ y ∉ kept then some (V.str y) else none | _ => none) := by
      refine List.mem_filterMap.mpr ⟨V.str (way z c), List.mem_map.mpr ⟨_, List.mem_cons_of_mem _ (List.mem_map.mpr ⟨c, hc, rfl⟩), rfl⟩, ?_⟩
      show (if way z c ∉ taken ∧ way z c ∉ kept then some (V.str (way z c)) else none) = _
      rw [if_pos ⟨fun h => hb (List.mem_append_left _ h), fun h => hb (List.mem_append_right _ h)⟩]
    generalize ((ways z).map V.str).filterMap (fun x => match x with | .str y => if y ∉ taken ∧ y ∉ kept then some (V.str y) else none | _ => none) = L at *
    cases L with
    | nil => cases hin
    | cons x r =>
      obtain ⟨y, rfl, hy, hyt⟩ := good x List.mem_cons_self
      exact ixl d6 at0 (q y H6 hy hyt (((Sx.same s25).same s6)) (kk.trans (Kp.of s6)))
end
end Lx

namespace Lx
open PySem PySem.Spec PyProof.Rows L2 Ub
section
variable {P : Program} {w : World} {K : PySem.W.Frag} {mg : Str → Option Value} {base : Heap}
theorem sc_records_of : FnScope ["tree", "word", "field"] ["tree"] (defScope s_records_of) := ⟨rfl, rfl, rfl, by decide +kernel, rfl, by decide +kernel, by decide +kernel⟩
theorem ok_records_of {f : Addr} {fd : FuncData} (F : FunD K "records_of" "records_of" (defArgs s_records_of) (defBody s_records_of) (defScope s_records_of) [] [] f fd) (T : Tx K mg) (hm : mg "records_of" = some (.ref f)) (hb : Binds K fd ["tree"] []) : ∀ d, FnOk P w K mg base CX0 d f fd ["tree"] (sp_tree d fun t => .int (t.recs : Nat))
  | 0 => no_tree
  | d + 1 => by
    have c_records_of : Cal P w K mg base d "records_of" ["tree"] (sp_tree d fun t => .int (t.recs : Nat)) := ⟨f, fd, ok_records_of F T hm hb d, hm, F.kp, hb⟩
    refine F.ok sc_records_of (fun vs H Q E h => h.len1) (fun cdv A outer s H vs Q E hr h => ?_)
    obtain ⟨t, v, rfl, ht, hd, hsz, hsh, q⟩ := h
    refine ⟨_, PSs.nox (pss_cons (ps_if (pt_cmpR (op_eq_nilK K hr.units0) (pv 0) (pe_tup pa_nil) (nomark _))
        (pss_one (ps_ret pe_int))
        pss_nil)
      (pss_one (ps_ret (pe_op op_add pe_int (pe_callB (cr_sumK K rfl) (by rfl) T.sum (by decide +kernel) (pa_cons (pe_lc (own := [("word", 1), ("field", 2)]) (by rfl) sc_records_of.nd (pi_tupK K (pv 0)) (blkOk_by (N := ["tree", "word", "field"]) (sc := (defScope s_records_of)) (by decide +kernel)) (fun _ _ _ _ _ => (pg_tupK K (n := 2) rfl (pgs_cons (pg_name (i := 1) sc_records_of.nd rfl (by first | exact Or.inl rfl | exact Or.inr rfl)) (pgs_cons (pg_name (i := 2) sc_records_of.nd rfl (by first | exact Or.inl rfl | exact Or.inr rfl)) pgs_nil)))) (fun _ _ _ _ _ => pts_nil) (fun _ _ _ _ _ => (pe_cal c_records_of (hr.mono (by omega)) (by rfl) (pa_cons (pv 2) pa_nil)))) pa_nil)))))), ?_⟩
    obtain ⟨a, ps, rfl, ha, hf⟩ := ht
    have hl := hf.len
    have hfl := t.fields_len
    -- tree == ()
    refine ⟨_, rfl, Nat.zero_le _, fun e ne => ?_⟩
    have s1 := same_upd (o := .tup []) ne
    refine ⟨a, e, ps, rfl, rfl, .inl (.inl (s1 _ _ ha)), .inl (.inl upd_same), _, rfl, ?_⟩
    refine iteE hf.nil_iff (fun e0 => ?_) (fun e0 => ?_)
    · have := q _ s1
      rw [Tr.nil_of e0] at this
      exact this
    refine ⟨_, rfl, a, rfl, ⟨_, .inl (.inl (s1 _ _ ha))⟩, fun D hD => ?_⟩
    refine lcM (walk_tup (xs := ps)) t.fields hl.symm (fun m => some (.int (m.2.recs : Nat))) (fun H s => Same.tup s (.inl (.inl (s1 _ _ ha)))) (sz4 (by omega)) hD (fun i x m H' hx hm' s' => ?_) (fun H1 s2 d1 => ?_)
    · obtain ⟨p, q', g1, g2, g3⟩ := hf.get hm'
      rw [g1] at hx
      cases hx
      intro Q1 Q0 h1 h0
      have s3 := s1.trans s'
      have dl := Tr.depth_lt (List.mem_of_getElem? hm')
      have sl := Tr.size_mem (List.mem_of_getElem? hm')
      exact ⟨p, _, rfl, .inl (.inl (s3 _ _ g2)), rfl, _, _, rfl, _, _, rfl, rfl, rfl, _, rfl, m.2, _, rfl, g3.same s3, by omega, by omega, (Tr.short_mem hsh (List.mem_of_getElem? hm')).2, fun H2 s4 => h1 _ _ rfl s4⟩
    have el : (t.fields.filterMap fun m => some (V.int (m.2.recs : Nat))) = (t.fields.map fun m => ((m.2.recs : Nat) : Int)).map V.int := by
      rw [List.filterMap_eq_map', List.map_map]
      rfl
    rw [el] at d1
    refine ⟨D, _, rfl, .inl (.inl d1), _, _, rfl, rfl, ?_⟩
    have qq : Q (.int ((t.recs : Nat) : Int)) H1 := q _ (s1.trans s2)
    rw [← recs_int e0] at qq
    exact qq
theorem sc_plains_of : FnScope ["tree", "word", "field"] ["tree"] (defScope s_plains_of) := ⟨rfl, rfl, rfl, by decide +kernel, rfl, by decide +kernel, by decide +kernel⟩
theorem ok_plains_of {f : Addr} {fd : FuncData} (F : FunD K "plains_of" "plains_of" (defArgs s_plains_of) (defBody s_plains_of) (defScope s_plains_of) [] [] f fd) (T : Tx K mg) (hm : mg "plains_of" = some (.ref f)) (hb : Binds K fd ["tree"] []) : ∀ d, FnOk P w K mg base CX0 d f fd ["tree"] (sp_tree d fun t => .int (t.plains : Nat))
  | 0 => no_tree
  | d + 1 => by
    have c_plains_of : Cal P w K mg base d "plains_of" ["tree"] (sp_tree d fun t => .int (t.plains : Nat)) := ⟨f, fd, ok_plains_of F T hm hb d, hm, F.kp, hb⟩
    refine F.ok sc_plains_of (fun vs H Q E h => h.len1) (fun cdv A outer s H vs Q E hr h => ?_)
    obtain ⟨t, v, rfl, ht, hd, hsz, hsh, q⟩ := h
    refine ⟨_, PSs.nox (pss_cons (ps_if (pt_cmpR (op_eq_nilK K hr.units0) (pv 0) (pe_tup pa_nil) (nomark _))
        (pss_one (ps_ret pe_int))
        pss_nil)
      (pss_one (ps_ret (pe_callB (cr_sumK K rfl) (by rfl) T.sum (by decide +kernel) (pa_cons (pe_lc (own := [("word", 1), ("field", 2)]) (by rfl) sc_plains_of.nd (pi_tupK K (pv 0)) (blkOk_by (N := ["tree", "word", "field"]) (sc := (defScope s_plains_of)) (by decide +kernel)) (fun _ _ _ _ _ => (pg_tupK K (n := 2) rfl (pgs_cons (pg_name (i := 1) sc_plains_of.nd rfl (by first | exact Or.inl rfl | exact Or.inr rfl)) (pgs_cons (pg_name (i := 2) sc_plains_of.nd rfl (by first | exact Or.inl rfl | exact Or.inr rfl)) pgs_nil)))) (fun _ _ _ _ _ => pts_nil) (fun _ _ _ _ _ => (pe_cal c_plains_of (hr.mono (by omega)) (by rfl) (pa_cons (pv 2) pa_nil)))) pa_nil))))), ?_⟩
    obtain ⟨a, ps, rfl, ha, hf⟩ := ht
    have hl := hf.len
    have hfl := t.fields_len
    -- tree == ()
    refine ⟨_, rfl, Nat.zero_le _, fun e ne => ?_⟩
    have s1 := same_upd (o := .tup []) ne
    refine ⟨a, e, ps, rfl, rfl, .inl (.inl (s1 _ _ ha)), .inl (.inl upd_same), _, rfl, ?_⟩
    refine iteE hf.nil_iff (fun e0 => ?_) (fun e0 => ?_)
    · have := q _ s1
      rw [Tr.nil_of e0] at this
      exact this
    refine ⟨_, rfl, a, rfl, ⟨_, .inl (.inl (s1 _ _ ha))⟩, fun D hD => ?_⟩
    refine lcM (walk_tup (xs := ps)) t.fields hl.symm (fun m => some (.int (m.2.plains : Nat))) (fun H s => Same.tup s (.inl (.inl (s1 _ _ ha)))) (sz4 (by omega)) hD (fun i x m H' hx hm' s' => ?_) (fun H1 s2 d1 => ?_)
    · obtain ⟨p, q', g1, g2, g3⟩ := hf.get hm'
      rw [g1] at hx
      cases hx
      intro Q1 Q0 h1 h0
      have s3 := s1.trans s'
      have dl := Tr.depth_lt (List.mem_of_getElem? hm')
      have sl := Tr.size_mem (List.mem_of_getElem? hm')
      exact ⟨p, _, rfl, .inl (.inl (s3 _ _ g2)), rfl, _, _, rfl, _, _, rfl, rfl, rfl, _, rfl, m.2, _, rfl, g3.same s3, by omega, by omega, (Tr.short_mem hsh (List.mem_of_getElem? hm')).2, fun H2 s4 => h1 _ _ rfl s4⟩
    have el : (t.fields.filterMap fun m => some (V.int (m.2.plains : Nat))) = (t.fields.map fun m => ((m.2.plains : Nat) : Int)).map V.int := by
      rw [List.filterMap_eq_map', List.map_map]
      rfl
    rw [el] at d1
    refine ⟨D, _, rfl, .inl (.inl d1), ?_⟩
    have qq : Q (.int ((t.plains : Nat) : Int)) H1 := q _ (s1.trans s2)
    rw [← plains_int e0] at qq
    exact qq
theorem sc_text_of : FnScope ["tree", "fields", "word", "field"] ["tree"] (defScope s_text_of) := ⟨rfl, rfl, rfl, by decide +kernel, rfl, by decide +kernel, by decide +kernel⟩
theorem ok_text_of {f : Addr} {fd : FuncData} (F : FunD K "text_of" "text_of" (defArgs s_text_of) (defBody s_text_of) (defScope s_text_of) [] [] f fd) (T : Tx K mg) (hm : mg "text_of" = some (.ref f)) (hb : Binds K fd ["tree"] []) : ∀ d, FnOk P w K mg base CX0 d f fd ["tree"] (sp_tree d fun t => .str t.text)
  | 0 => no_tree
  | d + 1 => by
    have c_text_of : Cal P w K mg base d "text_of" ["tree"] (sp_tree d fun t => .str t.text) := ⟨f, fd, ok_text_of F T hm hb d, hm, F.kp, hb⟩
    refine F.ok sc_text_of (fun vs H Q E h => h.len1) (fun cdv A outer s H vs Q E hr h => ?_)
    obtain ⟨t, v, rfl, ht, hd, hsz, hsh, q⟩ := h
    refine ⟨_, PSs.nox (pss_cons (ps_if (pt_cmpR (op_eq_nilK K hr.units0) (pv 0) (pe_tup pa_nil) (nomark _))
        (pss_one (ps_ret pe_str))
        pss_nil)
      (pss_cons (ps_set (i := 1) sc_text_of.nd rfl (by first | exact Or.inl rfl | exact Or.inr rfl) (pe_join pe_str (pe_lc (own := [("word", 2), ("field", 3)]) (by rfl) sc_text_of.nd (pi_tupK K (pv 0)) (blkOk_by (N := ["tree", "fields", "word", "field"]) (sc := (defScope s_text_of)) (by decide +kernel)) (fun _ _ _ _ _ => (pg_tupK K (n := 2) rfl (pgs_cons (pg_name (i := 2) sc_text_of.nd rfl (by first | exact Or.inl rfl | exact Or.inr rfl)) (pgs_cons (pg_name (i := 3) sc_text_of.nd rfl (by first | exact Or.inl rfl | exact Or.inr rfl)) pgs_nil)))) (fun _ _ _ _ _ => pts_nil) (fun _ _ _ _ _ => (pe_op op_add_str (pe_op op_add_str (pv 2) pe_str) (pe_cal c_text_of (hr.mono (by omega)) (by rfl) (pa_cons (pv 3) pa_nil)))))))
      (pss_one (ps_ret (pe_op op_add_str (pe_op op_add_str pe_str (pv 1)) pe_str))))), ?_⟩
    obtain ⟨a, ps, rfl, ha, hf⟩ := ht
    have hl := hf.len
    have hfl := t.fields_len
    -- tree == ()
    refine ⟨_, rfl, Nat.zero_le _, fun e ne => ?_⟩
    have s1 := same_upd (o := .tup []) ne
    refine ⟨a, e, ps, rfl, rfl, .inl (.inl (s1 _ _ ha)), .inl (.inl upd_same), _, rfl, ?_⟩
    refine iteE hf.nil_iff (fun e0 => ?_) (fun e0 => ?_)
    · have := q _ s1
      rw [Tr.nil_of e0] at this
      exact this
    refine ⟨⟨_, rfl⟩, _, rfl, a, rfl, ⟨_, .inl (.inl (s1 _ _ ha))⟩, fun D hD => ?_⟩
    refine lcM (walk_tup (xs := ps)) t.fields hl.symm (fun m => some (.str (m.1 ++ ": " ++ m.2.text))) (fun H s => Same.tup s (.inl (.inl (s1 _ _ ha)))) (sz4 (by omega)) hD (fun i x m H' hx hm' s' => ?_) (fun H1 s2 d1 => ?_)
    · obtain ⟨p, q', g1, g2, g3⟩ := hf.get hm'
      rw [g1] at hx
      cases hx
      intro Q1 Q0 h1 h0
      have s3 := s1.trans s'
      have dl := Tr.depth_lt (List.mem_of_getElem? hm')
      have sl := Tr.size_mem (List.mem_of_getElem? hm')
      obtain ⟨w8, sh⟩ := Tr.short_mem hsh (List.mem_of_getElem? hm')
      have tl := (Tr.join_le sh).2
      have e2 : ((": " : Str)).length = 2 := by decide +kernel
      have l2 : (m.1 ++ ": ").length ≤ 10 := by rw [len_app, e2]; omega
      exact ⟨p, _, rfl, .inl (.inl (s3 _ _ g2)), rfl, _, _, rfl, _, _, rfl, rfl, rfl, _, rfl, m.1, ": ", rfl, rfl, sz5 (by omega), _, rfl, m.2, _, rfl, g3.same s3, by omega, by omega, sh, fun H2 s4 => ⟨_, _, rfl, rfl, sz5 (by omega), h1 _ _ rfl s4⟩⟩
    have el : (t.fields.filterMap fun m => some (V.str (m.1 ++ ": " ++ m.2.text))) = t.pieces.map V.str := by
      rw [List.filterMap_eq_map', Tr.pieces_eq, List.map_map]
      rfl
    rw [el] at d1
    have jl := (Tr.join_le hsh).1
    have e3 : ((", " : Str)).length = 2 := by decide +kernel
    refine ⟨", ", D, t.pieces, rfl, rfl, .inl (.inl (.inl d1)), ?_, ?_⟩
    · rw [e3]
      omega
    rw [TL.join_eq]
    have tl := (Tr.join_le hsh).2
    have et := text_eq e0
    rw [et, len_app, len_app] at tl
    have e4 : (("{" : Str)).length = 1 := by decide +kernel
    have e5 : (("}" : Str)).length = 1 := by decide +kernel
    refine ⟨_, rfl, "{", _, rfl, rfl, sz5 (by omega), _, _, rfl, rfl, sz5 (by rw [len_app]; omega), ?_⟩
    have qq : Q (.str t.text) H1 := q _ (s1.trans s2)
    rw [et] at qq
    exact qq
end
end Lx

namespace Lx
open PySem PySem.Spec PyProof.Rows L2 Ub
section
variable {P : Program} {w : World} {K : PySem.W.Frag} {mg : Str → Option Value} {base : Heap}
theorem sc_scan_word : FnScope ["text", "at", "end"] ["text", "at"] (defScope s_scan_word) := ⟨rfl, rfl, rfl, by decide +kernel, rfl, by decide +kernel, by decide +kernel⟩
theorem ok_scan_word {f : Addr} {fd : FuncData} (F : FunD K "scan_word" "scan_word" (defArgs s_scan_word) (defBody s_scan_word) (defScope s_scan_word) [] [] f fd) (T : Tx K mg) (c_is_word : Cal P w K mg base 1 "is_word" ["text"] (sp_is_word K)) : FnOk P w K mg base CX0 2 f fd ["text", "at"] sp_scan_word := by
  refine F.ok sc_scan_word (fun vs H Q E h => ?_) (fun cdv A outer s H vs Q E hr h => ?_)
  · obtain ⟨z, a, rfl, _⟩ := h
    rfl
  · obtain ⟨z, a, rfl, hz, ha, q⟩ := h
    refine ⟨_, PSs.nox (pss_cons (ps_set (i := 2) sc_scan_word.nd rfl (by first | exact Or.inl rfl | exact Or.inr rfl) (pe_bmK K PySem.F.plainAttrs_str PySem.F.slot_str_find PySem.F.type_str_find mt_find4 (pv 0) (pa_cons pe_str (pa_cons (pv 1) (pa_cons (pe_op op_add (pv 1) pe_int) pa_nil)))))
      (pss_cons (ps_if (PW.pt (pw_or (pt_cmpR op_lt (pv 2) pe_int (nomark _)) (pw_or1 (pt_not (pt_val (pe_cal c_is_word (hr.mono (by omega)) (by rfl) (pa_cons (pe_slice sl_str (pv 0) (po_some (pv 1)) (po_some (pv 2))) pa_nil)))))))
        (pss_one (ps_ret pe_non))
        pss_nil)
      (pss_one (ps_ret (pe_slice sl_str (pv 0) (po_some (pv 1)) (po_some (pv 2))))))), ?_⟩
    refine ⟨_, rfl, rfl, _, rfl, _, rfl, _, _, rfl, rfl, z, ": ", _, _, rfl, rfl, ?_⟩
    rcases find_colon z a ha with ⟨e, h1, h2, h3, h4⟩ | ⟨h1, h2⟩
    · rw [h1]
      have hs := scanW_found h3 h4 h2
      rw [hs] at q
      have ec : cutS z (some (a : Int)) (some ((a + e : Nat) : Int)) = ⟨(((cs z).drop a).take e).toArray⟩ := by
        rw [cut_nat ha (by omega), show a + e - a = e by omega]
      have hl : ((⟨(((cs z).drop a).take e).toArray⟩ : Str)).length ≤ 10000 := by
        show (((cs z).drop a).take e).toArray.size ≤ 10000
        rw [List.size_toArray, List.length_take]
        omega
      refine ⟨_, rfl, _, _, rfl, rfl, _, rfl, ?_⟩
      refine iteN (by omega) ?_
      refine ⟨_, rfl, _, rfl, _, rfl, _, rfl, _, rfl, z, rfl, sz5 hz, _, rfl, .inl ⟨_, rfl, ?_, fun H1 s1 => ⟨_, rfl, ?_⟩⟩⟩
      · rw [ec]; exact hl
      rw [ec]
      cases hw : isWord ⟨(((cs z).drop a).take e).toArray⟩ with
      | true =>
        rw [hw] at q
        refine ⟨_, rfl, _, rfl, _, rfl, _, rfl, _, rfl, z, rfl, sz5 hz, ?_⟩
        rw [ec]
        exact q H1 s1
      | false =>
        rw [hw] at q
        exact q H1 s1
    · rw [h1]
      rw [scanW_none h2] at q
      refine ⟨_, rfl, _, _, rfl, rfl, _, rfl, ?_⟩
      refine iteY (by decide) ?_
      exact q H (Same.refl _)
end
end Lx

namespace Lx
open PySem PySem.Spec PyProof.Rows L2 Ub
/-- what the loop keeps -/
structure ScI (H0 H : Hp) (z : Str) (f : Nat) (s0 : List Nat) (fl : Addr) (l : List (Str × Tr)) (here n : Nat) : Prop where
  same : Same H0 H
  lst : ∃ ps, H fl = some (.lst ps) ∧ FsAt H (.ofFields l) ps
  num : l.length + n = 3
  le : here ≤ z.length
  go : scanF (scanS f) 3 [] s0 = (scanF (scanS f) n (l.map (·.1)) ((cs z).drop here)).map fun p => (prep l p.1, p.2)
section
variable {P : Program} {w : World} {K : PySem.W.Frag} {mg : Str → Option Value} {base : Heap}
theorem sc_scan_shape : FnScope ["text", "at", "floors", "fields", "here", "word", "tree", "name", "field"] ["text", "at", "floors"] (defScope s_scan_shape) := ⟨rfl, rfl, rfl, by decide +kernel, rfl, by decide +kernel, by decide +kernel⟩
theorem ok_scan_shape {f : Addr} {fd : FuncData} (F : FunD K "scan_shape" "scan_shape" (defArgs s_scan_shape) (defBody s_scan_shape) (defScope s_scan_shape) [.int 3] [] f fd) (T : Tx K mg) (hm : mg "scan_shape" = some (.ref f)) (hb : Binds K fd ["text", "at", "floors"] []) (c_scan_word : Cal P w K mg base 2 "scan_word" ["text", "at"] sp_scan_word) : ∀ d, FnOk P w K mg base CX0 (d + 2) f fd ["text", "at", "floors"] (sp_scan d)
  | 0 => FnOk.mono no_scan (by omega)
  | d + 1 => by
    have c_scan_shape : Cal P w K mg base (d + 2) "scan_shape" ["text", "at", "floors"] (sp_scan d) := ⟨f, fd, ok_scan_shape F T hm hb c_scan_word d, hm, F.kp, hb⟩
    refine F.ok sc_scan_shape (fun vs H Q E h => ?_) (fun cdv A outer s H vs Q E hr h => ?_)
    · obtain ⟨_, _, _, rfl, _⟩ := h
      rfl
    obtain ⟨z, a, fl, rfl, hz, ha, hd, h3, q⟩ := h
    refine ⟨_, PSs.nox (pss_cons (ps_if (pt_cmpR op_eq (pe_slice sl_str (pv 0) (po_some (pv 1)) (po_some (pe_op op_add (pv 1) pe_int))) pe_str (nomark _))
        (pss_one (ps_ret (pe_tup (pa_cons (pe_tup pa_nil) (pa_cons (pe_op op_add (pv 1) pe_int) pa_nil)))))
        pss_nil)
      (pss_cons (ps_if (PW.pt (pw_or (pt_cmpR op_ne (pe_slice sl_str (pv 0) (po_some (pv 1)) (po_some (pe_op op_add (pv 1) pe_int))) pe_str (nomark _)) (pw_or1 (pt_cmpR op_eq (pv 2) pe_int (nomark _)))))
        (pss_one (ps_ret (pe_tup (pa_cons pe_non (pa_cons (pv 1) pa_nil)))))
        pss_nil)
      (pss_cons (ps_set (i := 3) sc_scan_shape.nd rfl (by first | exact Or.inl rfl | exact Or.inr rfl) (pe_lst pa_nil))
      (pss_cons (ps_set (i := 4) sc_scan_shape.nd rfl (by first | exact Or.inl rfl | exact Or.inr rfl) (pe_op op_add (pv 1) pe_int))
      (pss_one (ps_while PassesOwn.never (pt_val pe_bl)
        (pss_cons (ps_set (i := 5) sc_scan_shape.nd rfl (by first | exact Or.inl rfl | exact Or.inr rfl) (pe_cal c_scan_word (hr.mono (by omega)) (by rfl) (pa_cons (pv 0) (pa_cons (pv 4) pa_nil))))
          (pss_cons (ps_if (PW.pt (pw_or (pt_cmpR op_isN (pv 5) pe_non (nomark _)) (pw_or (pt_cmpR op_eq (pe_callB (call_len_seqK K) (by rfl) T.len (by decide +kernel) (pa_cons (pv 3) pa_nil)) (pe_globI (by rfl) T.c_MOST_FIELDS) (nomark _)) (pw_or1 (pt_cmpR (op_in_seqK K) (pv 5) (pe_lc (own := [("name", 7), ("field", 8)]) (by rfl) sc_scan_shape.nd (pi_listK K (pv 3)) (blkOk_by (N := ["text", "at", "floors", "fields", "here", "word", "tree", "name", "field"]) (sc := (defScope s_scan_shape)) (by decide +kernel)) (fun _ _ _ _ _ => (pg_tupK K (n := 2) rfl (pgs_cons (pg_name (i := 7) sc_scan_shape.nd rfl (by first | exact Or.inl rfl | exact Or.inr rfl)) (pgs_cons (pg_name (i := 8) sc_scan_shape.nd rfl (by first | exact Or.inl rfl | exact Or.inr rfl)) pgs_nil)))) (fun _ _ _ _ _ => pts_nil) (fun _ _ _ _ _ => (pv 7))) (by rfl))))))
            (pss_one (ps_ret (pe_tup (pa_cons pe_non (pa_cons (pv 1) pa_nil)))))
            pss_nil)
          (pss_cons (ps_asg (pe_cal c_scan_shape (hr.mono (by omega)) (by rfl) (pa_cons (pv 0) (pa_cons (pe_op op_add (pe_op op_add (pv 4) (pe_callB call_len_str (by rfl) T.len (by decide +kernel) (pa_cons (pv 5) pa_nil))) pe_int) (pa_cons (pe_op op_sub (pv 2) pe_int) pa_nil)))) (pg_tupK K (n := 2) rfl (pgs_cons (pg_name (i := 6) sc_scan_shape.nd rfl (by first | exact Or.inl rfl | exact Or.inr rfl)) (pgs_cons (pg_name (i := 4) sc_scan_shape.nd rfl (by first | exact Or.inl rfl | exact Or.inr rfl)) pgs_nil))))
          (pss_cons (ps_if (pt_cmpR op_isN (pv 6) pe_non (nomark _))
            (pss_one (ps_ret (pe_tup (pa_cons pe_non (pa_cons (pv 1) pa_nil)))))
            pss_nil)
          (pss_cons (ps_expr (pe_bmK K PySem.F.plainAttrs_list PySem.F.slot_list_append PySem.F.type_list_append mt_append (pv 3) (pa_cons (pe_tup (pa_cons (pv 5) (pa_cons (pv 6) pa_nil))) pa_nil)))
          (pss_cons (ps_if (pt_cmpR op_eq (pe_slice sl_str (pv 0) (po_some (pv 4)) (po_some (pe_op op_add (pv 4) pe_int))) pe_str (nomark _))
            (pss_one (ps_ret (pe_tup (pa_cons (pe_callTy (call_tuple_ofK K) (by rfl) T.tuple (by decide +kernel) (pa_cons (pv 3) pa_nil)) (pa_cons (pe_op op_add (pv 4) pe_int) pa_nil)))))
            pss_nil)
          (pss_cons (ps_if (pt_cmpR op_ne (pe_slice sl_str (pv 0) (po_some (pv 4)) (po_some (pe_op op_add (pv 4) pe_int))) pe_str (nomark _))
            (pss_one (ps_ret (pe_tup (pa_cons pe_non (pa_cons (pv 1) pa_nil)))))
            pss_nil)
          (pss_one (ps_set (i := 4) sc_scan_shape.nd rfl (by first | exact Or.inl rfl | exact Or.inr rfl) (pe_op op_add (pv 4) pe_int)))))))))))))))), ?_⟩
    -- if text[at:at + 1] == '.'
    refine ⟨_, rfl, _, rfl, _, rfl, _, rfl, _, _, rfl, rfl, _, rfl, z, rfl, sz5 hz, rfl, _, rfl, ?_⟩
    refine iteE (cut1_eq ha cs_dot) (fun e => ?_) (fun e => ?_)
    · obtain ⟨r, hr', hs⟩ := scanS_dot (f := fl) (of_decide_eq_true e)
      rw [hs] at q
      refine ⟨Nat.zero_le _, fun u nu => ?_⟩
      refine ⟨_, rfl, _, _, rfl, rfl, (by show 2 ≤ sizeLine; decide), fun p np => ?_⟩
      have s1 := same_upd (o := .tup []) nu
      have s2 := same_upd (o := .tup [.ref u, .int ((a : Int) + 1)]) np
      refine q _ p (s1.trans s2) ⟨.ref u, ⟨u, [], rfl, s2 _ _ upd_same, rfl⟩, ?_⟩
      have hl : ((cs z).drop a).length = r.length + 1 := by rw [hr']; rfl
      rw [List.length_drop, cs_len] at hl
      have e1 : ((a : Nat) : Int) + 1 = ((z.length - r.length : Nat) : Int) := by omega
      rw [← e1]
      exact upd_same
    -- if text[at:at + 1] != '{' or floors == 0
    have none_out : scanS fl ((cs z).drop a) = none → ∀ H1, Same H H1 → ∀ p, H1 p = none → Q (.ref p) (upd H1 p (.tup [.non, .int (a : Int)])) := fun hs H1 s1 p np => by
      rw [hs] at q
      exact q _ p (s1.trans (same_upd np)) upd_same
    refine ⟨_, rfl, _, rfl, _, rfl, _, rfl, _, _, rfl, rfl, _, rfl, z, rfl, sz5 hz, rfl, _, rfl, ?_⟩
    have en := cut1_eq (z := z) (x := "{") ha cs_open
    refine iteE (c := !decide (((cs z).drop a).take 1 = [123])) (by rw [← en]) (fun e2 => ?_) (fun e2 => ?_)
    · refine iteT ?_
      refine ⟨_, rfl, (by show 2 ≤ sizeLine; decide), none_out (scanS_none (of_decide_eq_false e) (.inl (by simpa using e2))) H (Same.refl _)⟩
    refine ⟨_, rfl, rfl, _, rfl, ?_⟩
    refine iteE (dI _ _) (fun e3 => ?_) (fun e3 => ?_)
    · have hf0 : fl = 0 := by
        have : ((fl : Nat) : Int) = 0 := of_decide_eq_true e3
        omega
      refine ⟨_, rfl, (by show 2 ≤ sizeLine; decide), none_out (scanS_none (of_decide_eq_false e) (.inr hf0)) H (Same.refl _)⟩
    have hf0 : fl ≠ 0 := by
      have : ¬ ((fl : Nat) : Int) = 0 := of_decide_eq_false e3
      omega
    obtain ⟨g, rfl⟩ : ∃ g, fl = g + 1 := ⟨fl - 1, by omega⟩
    obtain ⟨s0, hs0, hsc⟩ := scanS_rec (f := g) (show ((cs z).drop a).take 1 = [123] by simpa using e2)
    -- fields = []; here = at + 1
    refine ⟨Nat.zero_le _, fun b nb => ?_⟩
    refine ⟨_, rfl, _, _, rfl, rfl, ?_⟩
    have hl0 : ((cs z).drop a).length = s0.length + 1 := by rw [hs0]; rfl
    rw [List.length_drop, cs_len] at hl0
    have hd1 : (cs z).drop (a + 1) = s0 := by
      rw [← List.drop_drop, hs0]
      rfl
    -- the loop
    refine ⟨fun m σ H1 => ∃ l here n y5 y6, m = n ∧ σ = [some (.str z), some (.int (a : Nat)), some (.int ((g + 1 : Nat) : Int)), some (.ref b), some (.int (here : Nat)), y5, y6, none, none] ∧ ScI H H1 z g s0 b l here n, ⟨3, [], a + 1, 3, none, none, rfl, ?_, ?_⟩, ?_⟩
    · have e1 : (((a + 1 : Nat)) : Int) = (a : Int) + 1 := by omega
      rw [e1]
      rfl
    · refine ⟨same_upd nb, ⟨[], upd_same, rfl⟩, rfl, by omega, ?_⟩
      rw [hd1]
      show _ = (scanF (scanS g) 3 [] s0).map fun p => (p.1, p.2)
      cases scanF (scanS g) 3 [] s0 <;> rfl
    rintro m σ H1 ⟨l, here, n, y5, y6, rfl, rfl, I⟩
    obtain ⟨same, ⟨ps, hps, hfs⟩, num, le, go⟩ := I
    have bad : scanF (scanS g) m (l.map (·.1)) ((cs z).drop here) = none → scanS (g + 1) ((cs z).drop a) = none := fun h => by
      rw [hsc, go, h]
      rfl
    have hlen : ps.length = l.length := by
      rw [hfs.len, Tr.fields_of]
    refine ⟨true, rfl, ?_⟩
    refine iteT ?_
    refine ⟨fun σ' H' => ∃ l here n y5 y6, n < m ∧ σ' = [some (.str z), some (.int (a : Nat)), some (.int ((g + 1 : Nat) : Int)), some (.ref b), some (.int (here : Nat)), y5, y6, none, none] ∧ ScI H H' z g s0 b l here n, ?_, ?_⟩
    · rintro σ' H' ⟨l', here', n', y5', y6', hlt, rfl, I'⟩
      exact ⟨n', hlt, l', here', n', y5', y6', rfl, rfl, I'⟩
    -- word = scan_word(text, here)
    refine ⟨_, rfl, _, rfl, z, here, rfl, hz, le, fun H2 s2 => ?_⟩
    have same2 := same.trans s2
    cases hw : scanW ((cs z).drop here) with
    | none =>
      refine ⟨_, rfl, rfl, _, rfl, ?_⟩
      refine iteT ?_
      exact ⟨_, rfl, (by show 2 ≤ sizeLine; decide), none_out (bad (scanF_none1 hw)) H2 same2⟩
    | some wd =>
      obtain ⟨gw, r0, hr0⟩ := scanW_some hw
      have w8 := (isWord_len gw).2
      have hlr : ((cs z).drop here).length = wd.length + (r0.length + 2) := by
        rw [hr0, List.length_append, cs_len]
        rfl
      rw [List.length_drop, cs_len] at hlr
      refine ⟨_, rfl, rfl, _, rfl, ?_⟩
      refine iteF ?_
      refine ⟨_, rfl, b, ps, rfl, .inl (.inl (.inl (s2 _ _ hps))), rfl, _, rfl, ?_⟩
      refine iteE (dI _ _) (fun e4 => ?_) (fun e4 => ?_)
      · have h4 : ((ps.length : Nat) : Int) = 3 := of_decide_eq_true e4
        have hm0 : m = 0 := by omega
        refine iteT ?_
        refine ⟨_, rfl, (by show 2 ≤ sizeLine; decide), none_out (bad ?_) H2 same2⟩
        rw [hm0]
        rfl
      have h4 : ¬ ((ps.length : Nat) : Int) = 3 := of_decide_eq_false e4
      obtain ⟨n', rfl⟩ : ∃ n', m = n' + 1 := ⟨m - 1, by omega⟩
      -- word in [name for name, field in fields]
      refine ⟨_, rfl, _, rfl, b, rfl, ⟨_, .inl (.inl (s2 _ _ hps))⟩, fun D hD => ?_⟩
      refine lcM (walk_list (xs := ps)) l hlen.symm (fun p => some (.str p.1)) (fun H s => s.seq (.inl (.inl (s2 _ _ hps)))) (sz5 (by omega)) hD (fun i x p H' hx hp s' => ?_) (fun H3 s3 d3 => ?_)
      · obtain ⟨pa, qv, g1, g2, _⟩ := hfs.get (m := p) (by rw [Tr.fields_of]; exact hp)
        rw [g1] at hx
        cases hx
        intro Q1 Q0 h1 h0
        exact ⟨pa, _, rfl, .inl (.inl (s' _ _ (s2 _ _ g2))), rfl, _, _, rfl, _, _, rfl, rfl, rfl, _, rfl, h1 _ _ rfl (Same.refl _)⟩
      have el : (l.filterMap fun p => some (V.str p.1)) = (l.map (·.1)).map V.str := by
        rw [List.filterMap_eq_map', List.map_map]
        rfl
      rw [el] at d3
      have same3 := same2.trans s3
      refine ⟨D, _, rfl, .inl (.inl (.inl d3)), rfl, flat_strs _, _, rfl, ?_⟩
      refine iteE (c := decide (wd ∈ l.map fun p : Str × Tr => p.1)) (by show inV (.str wd) ((l.map fun p : Str × Tr => p.1).map V.str) = _; exact inV_str _ _) (fun e5 => ?_) (fun e5 => ?_)
      · exact ⟨_, rfl, (by show 2 ≤ sizeLine; decide), none_out (bad (scanF_none2 hw (of_decide_eq_true e5))) H3 same3⟩
      have hk : wd ∉ l.map (·.1) := of_decide_eq_false e5
      -- tree, here = scan_shape(..)
      refine ⟨_, rfl, _, rfl, _, rfl, wd, rfl, sz5 (by omega), _, _, rfl, rfl, _, _, rfl, rfl, _, rfl, _, _, rfl, rfl, z, here + wd.length + 2, g, ?_, hz, by omega, by omega, by omega, fun H4 p s4 out => ?_⟩
      · have e1 : ((here : Int) + (wd.length : Int)) + 2 = ((here + wd.length + 2 : Nat) : Int) := by omega
        have e2 : ((g + 1 : Nat) : Int) - 1 = ((g : Nat) : Int) := by omega
        show [V.str z, V.int (((here : Int) + (wd.length : Int)) + 2), V.int (((g + 1 : Nat) : Int) - 1)] = _
        rw [e1, e2]
      have same4 := same3.trans s4
      have hdd : ((cs z).drop here).drop (wd.length + 2) = (cs z).drop (here + wd.length + 2) := by
        rw [List.drop_drop, Nat.add_assoc]
      cases hsc2 : scanS g ((cs z).drop (here + wd.length + 2)) with
      | none =>
        rw [hsc2] at out
        have out : H4 p = some (.tup [.non, .int ((here + wd.length + 2 : Nat) : Int)]) := out
        refine ⟨p, _, rfl, .inl (.inl out), rfl, _, _, rfl, _, _, rfl, rfl, ?_⟩
        refine ⟨_, rfl, rfl, _, rfl, ?_⟩
        refine iteT ?_
        exact ⟨_, rfl, (by show 2 ≤ sizeLine; decide), none_out (bad (scanF_none3 hw (by rw [hdd]; exact hsc2))) H4 same4⟩
      | some pr =>
        obtain ⟨t, r⟩ := pr
        rw [hsc2] at out
        obtain ⟨qv, ht, hp⟩ := out
        obtain ⟨fine, hpre⟩ := scanS_out _ _ _ _ hsc2
        have hall : cs z = ((cs z).take (here + wd.length + 2) ++ tcs t) ++ r := by
          rw [List.append_assoc, ← hpre, List.take_append_drop]
        have hrl : r.length ≤ z.length := by
          have := congrArg List.length hall
          rw [List.length_append, cs_len] at this
          omega
        have hdr : (cs z).drop (z.length - r.length) = r := by
          have := drop_suf hall
          rwa [cs_len] at this
        generalize hn2 : z.length - r.length = here2 at hp hdr
        have le2 : here2 ≤ z.length := by omega
        have hr2 : r.length = z.length - here2 := by omega
        have hst : scanF (scanS g) (n' + 1) (l.map (·.1)) ((cs z).drop here) = nextF (scanS g) n' (l.map (·.1)) wd t r := scanF_step hw hk (by rw [hdd]; exact hsc2)
        rw [hst] at go bad
        refine ⟨p, _, rfl, .inl (.inl hp), rfl, _, _, rfl, _, _, rfl, rfl, ?_⟩
        obtain ⟨ta, tps, rfl, hta, hfa⟩ := id ht
        refine ⟨_, rfl, rfl, _, rfl, ?_⟩
        refine iteF ?_
        -- fields.append((word, tree))
        have hb4 : H4 b = some (.lst ps) := s4 _ _ (s3 _ _ (s2 _ _ hps))
        refine ⟨_, rfl, .inl ⟨rfl, _, .inl (.inl hb4)⟩, _, rfl, _, rfl, (by show 2 ≤ sizeLine; decide), fun u nu => ?_⟩
        have nbu : b ≠ u := ne_of_none hb4 nu
        have su := same_upd (o := .tup [.str wd, .ref ta]) nu
        refine ⟨b, ps, _, rfl, rfl, su _ _ hb4, small1000 (by omega), ?_⟩
        refine absH fun H5 eH => ?_
        have nb4 : H b = none := nb
        have same5 : Same H H5 := fun c o e => by
          rw [eH, upd_ne (ne_of_none e nb4)]
          exact su _ _ (same4 _ _ e)
        have s45 : ∀ c o, H4 c = some o → c ≠ b → H5 c = some o := fun c o e hc => by
          rw [eH, upd_ne hc]
          exact su _ _ e
        have hb5 : H5 b = some (.lst (ps ++ [.ref u])) := by rw [eH, upd_same]
        have hu5 : H5 u = some (.tup [.str wd, .ref ta]) := by
          rw [eH, upd_ne nbu.symm]
          exact upd_same
        have tupne : ∀ {c : Addr} {xs : List V}, H4 c = some (.tup xs) → H5 c = some (.tup xs) := fun {c xs} e => s45 _ _ e (ne_of e hb4 (by intro z; cases z))
        clear eH
        have mono : ∀ {tt : Tr} {qs : List V}, FsAt H4 tt qs → FsAt H5 tt qs := fun {tt qs} => FsAt.tups (fun c xs e => tupne e)
        have hfs5 : FsAt H5 (.ofFields (l ++ [(wd, t)])) (ps ++ [.ref u]) := FsAt.snoc (mono (hfs.same ((s2.trans s3).trans s4))) hu5 ⟨ta, tps, rfl, tupne hta, mono hfa⟩
        -- if text[here:here + 1] == '}'
        refine ⟨_, rfl, _, rfl, _, rfl, _, rfl, _, _, rfl, rfl, _, rfl, z, rfl, sz5 hz, rfl, _, rfl, ?_⟩
        refine iteE (cut1_eq le2 cs_shut) (fun e6 => ?_) (fun e6 => ?_)
        · have e6 : ((cs z).drop here2).take 1 = [125] := of_decide_eq_true e6
          rw [hdr] at e6
          obtain ⟨r', hr', hnx⟩ := nextF_end (scan := scanS g) (n := n') (known := l.map (·.1)) (w := wd) (t := t) e6
          rw [hsc, go, hnx] at q
          refine ⟨_, rfl, b, _, rfl, .inl ⟨.inl (.inl hb5), fun v nv => ?_⟩⟩
          refine ⟨_, rfl, _, _, rfl, rfl, (by show 2 ≤ sizeLine; decide), fun o no => ?_⟩
          have sv := same_upd (o := .tup (ps ++ [.ref u])) nv
          have so := same_upd (o := .tup [.ref v, .int ((here2 : Int) + 1)]) no
          refine q _ o ((same5.trans sv).trans so) ⟨.ref v, ⟨v, _, rfl, so _ _ upd_same, ?_⟩, ?_⟩
          · show FsAt _ (prep l (.cons wd t .nil)) _
            rw [← prep_snoc, prep_nil]
            exact hfs5.same (sv.trans so)
          · have hl' : r.length = r'.length + 1 := by rw [hr']; rfl
            have e7 : ((here2 : Nat) : Int) + 1 = ((z.length - r'.length : Nat) : Int) := by omega
            rw [← e7]
            exact upd_same
        have e6 : ¬ ((cs z).drop here2).take 1 = [125] := of_decide_eq_false e6
        rw [hdr] at e6
        refine ⟨_, rfl, _, rfl, _, rfl, _, rfl, _, _, rfl, rfl, _, rfl, z, rfl, sz5 hz, rfl, _, rfl, ?_⟩
        have ec := cut2_eq (z := z) (x := ", ") le2 cs_comma
        refine iteE (c := !decide (((cs z).drop here2).take 2 = [44, 32])) (by rw [← ec]) (fun e7 => ?_) (fun e7 => ?_)
        · have e7 : ¬ ((cs z).drop here2).take 2 = [44, 32] := by simpa using e7
          rw [hdr] at e7
          exact ⟨_, rfl, (by show 2 ≤ sizeLine; decide), none_out (bad (nextF_bad e6 e7)) H5 same5⟩
        have e7 : ((cs z).drop here2).take 2 = [44, 32] := by simpa using e7
        rw [hdr] at e7
        obtain ⟨r', hr', hnx⟩ := nextF_on (scan := scanS g) (n := n') (known := l.map (·.1)) (w := wd) (t := t) e7
        have hl' : r.length = r'.length + 2 := by rw [hr']; rfl
        refine ⟨_, rfl, _, _, rfl, rfl, l ++ [(wd, t)], here2 + 2, n', some (.str wd), some (.ref ta), Nat.lt_succ_self _, ?_, same5, ⟨_, hb5, hfs5⟩, ?_, by omega, ?_⟩
        · have e8 : ((here2 + 2 : Nat) : Int) = (here2 : Int) + 2 := by omega
          rw [e8]
          rfl
        · rw [List.length_append]
          show l.length + 1 + n' = 3
          omega
        · rw [go, hnx, ← List.drop_drop, hdr, hr', List.map_append]
          show Option.map _ (Option.map _ (scanF (scanS g) n' (l.map (·.1) ++ [wd]) r')) = Option.map _ (scanF (scanS g) n' (l.map (·.1) ++ [wd]) r')
          cases scanF (scanS g) n' (l.map (·.1) ++ [wd]) r' with
          | none => rfl
          | some p =>
            show some (prep l (.cons wd t p.1), p.2) = some (prep (l ++ [(wd, t)]) p.1, p.2)
            rw [prep_snoc]
end
end Lx

namespace Lx
open PySem PySem.Spec PyProof.Rows L2 Ub Ur Up
section
variable {P : Program} {w : World} {K : PySem.W.Frag} {mg : Str → Option Value} {base : Heap}
theorem sc_is_bounded : FnScope ["tree"] ["tree"] (defScope s_is_bounded) := ⟨rfl, rfl, rfl, by decide +kernel, rfl, by decide +kernel, by decide +kernel⟩
theorem ok_is_bounded {f : Addr} {fd : FuncData} (F : FunD K "is_bounded" "is_bounded" (defArgs s_is_bounded) (defBody s_is_bounded) (defScope s_is_bounded) [] [] f fd) (T : Tx K mg) (c_records_of : Cal P w K mg base 4 "records_of" ["tree"] (sp_tree 4 fun t => .int (t.recs : Nat))) (c_plains_of : Cal P w K mg base 4 "plains_of" ["tree"] (sp_tree 4 fun t => .int (t.plains : Nat))) : FnOk P w K mg base CX0 5 f fd ["tree"] sp_bounded := by
  refine F.ok sc_is_bounded (fun vs H Q E h => ?_) (fun cdv A outer s H vs Q E hr h => ?_)
  · obtain ⟨t, v, rfl, _⟩ := h
    rfl
  obtain ⟨t, v, rfl, ht, hd, hsz, hsh, q⟩ := h
  refine ⟨_, PSs.nox (pss_one (ps_ret (pe_and (pe_cmpR op_le (pe_cal c_records_of (hr.mono (by omega)) (by rfl) (pa_cons (pv 0) pa_nil)) (pe_globI (by rfl) T.c_MOST_RECORDS) (nomark _)) (pe_one (pe_cmpR op_le (pe_cal c_plains_of (hr.mono (by omega)) (by rfl) (pa_cons (pv 0) pa_nil)) (pe_globI (by rfl) T.c_MOST_PLAINS) (nomark _)))))), ?_⟩
  refine ⟨_, rfl, t, v, rfl, ht, hd, hsz, hsh, fun H1 s1 => ?_⟩
  refine ⟨_, _, rfl, rfl, _, rfl, ?_⟩
  refine iteE rfl (fun e => ?_) fun e => ?_
  · have e1 : t.recs ≤ 5 := by have := of_decide_eq_true e; omega
    refine ⟨_, rfl, t, v, rfl, ht.same s1, hd, hsz, hsh, fun H2 s2 => ?_⟩
    refine ⟨_, _, rfl, rfl, ?_⟩
    have z := q H2 (s1.trans s2)
    have ed : decide (t.recs ≤ 5 ∧ t.plains ≤ 5) = decide (((t.plains : Nat) : Int) ≤ 5) := by
      by_cases h : t.plains ≤ 5
      · rw [decide_eq_true (⟨e1, h⟩ : t.recs ≤ 5 ∧ t.plains ≤ 5), decide_eq_true (by omega)]
      · rw [decide_eq_false (fun y : t.recs ≤ 5 ∧ t.plains ≤ 5 => h y.2), decide_eq_false (by omega)]
    rw [ed] at z
    exact z
  · have e1 : ¬ t.recs ≤ 5 := by have := of_decide_eq_false e; omega
    have z := q H1 s1
    rw [decide_eq_false (fun y : t.recs ≤ 5 ∧ t.plains ≤ 5 => e1 y.1)] at z
    exact z
theorem sc_tree_of : FnScope ["text", "tree", "here"] ["text"] (defScope s_tree_of) := ⟨rfl, rfl, rfl, by decide +kernel, rfl, by decide +kernel, by decide +kernel⟩
theorem ok_tree_of {f : Addr} {fd : FuncData} (F : FunD K "tree_of" "tree_of" (defArgs s_tree_of) (defBody s_tree_of) (defScope s_tree_of) [] [] f fd) (T : Tx K mg) (c_is_bounded : Cal P w K mg base 5 "is_bounded" ["tree"] sp_bounded) (c_scan_shape2 : CalD P w K mg base 6 "scan_shape" ["text", "at", "floors"] [.int 3] (sp_scan 4)) : FnOk P w K mg base CX0 7 f fd ["text"] (sp_tree_of K) := by
  refine F.ok sc_tree_of (fun vs H Q E h => ?_) (fun cdv A outer s H vs Q E hr h => ?_)
  · obtain ⟨x, rfl, _⟩ := h
    rfl
  obtain ⟨x, rfl, h⟩ := h
  refine ⟨_, PSs.nox (pss_cons (ps_if (pt_not (pt_val (pe_callB (call_isiK' K) (by rfl) T.isinstance (by decide +kernel) (pa_cons (pv 0) (pa_cons (pe_bltn (v := .ty "str") (by rfl) T.str (by decide +kernel) rfl) pa_nil)))))
        (pss_one (ps_ret pe_non))
        pss_nil)
      (pss_cons (ps_asg (pe_calD c_scan_shape2 (hr.mono (by omega)) (by rfl) (pa_cons (pv 0) (pa_cons pe_int pa_nil))) (pg_tupK K (n := 2) rfl (pgs_cons (pg_name (i := 1) sc_tree_of.nd rfl (by first | exact Or.inl rfl | exact Or.inr rfl)) (pgs_cons (pg_name (i := 2) sc_tree_of.nd rfl (by first | exact Or.inl rfl | exact Or.inr rfl)) pgs_nil))))
      (pss_cons (ps_if (PW.pt (pw_or (pt_cmpR op_isN (pv 1) pe_non (nomark _)) (pw_or (pt_cmpR op_ne (pv 2) (pe_callB call_len_str (by rfl) T.len (by decide +kernel) (pa_cons (pv 0) pa_nil)) (nomark _)) (pw_or1 (pt_not (pt_val (pe_cal c_is_bounded (hr.mono (by omega)) (by rfl) (pa_cons (pv 1) pa_nil))))))))
        (pss_one (ps_ret pe_non))
        pss_nil)
      (pss_one (ps_ret (pv 1)))))), ?_⟩
  rcases h with ⟨z, rfl, hz, q⟩ | ⟨⟨T0, ht, hk⟩, q⟩
  · refine ⟨_, rfl, _, _, _, _, true, rfl, .ty "str", .base (.str z), kit_ty (by decide +kernel), true, rfl, ?_⟩
    refine iteE (c := false) rfl (fun z => nomatch z) fun _ => ?_
    refine ⟨_, rfl, z, 0, 3, rfl, hz, Nat.zero_le _, by decide, by decide, fun H1 p s1 ho => ?_⟩
    have e0 : (cs z).drop 0 = cs z := rfl
    rw [e0] at ho
    cases hs : scanS 3 (cs z) with
    | none =>
      rw [hs] at ho
      have q1 : Q .non H1 := by
        have y := q H1 s1
        unfold shapeOf at y
        rw [hs] at y
        exact y
      have ho : H1 p = some (.tup [.non, .int ((0 : Nat) : Int)]) := ho
      refine ⟨p, _, rfl, .inl (.inl ho), rfl, _, _, rfl, _, _, rfl, rfl, ?_⟩
      refine ⟨_, rfl, rfl, _, rfl, ?_⟩
      exact iteT (iteT q1)
    | some tr =>
      obtain ⟨t, r⟩ := tr
      rw [hs] at ho
      obtain ⟨v, hv, hp⟩ := ho
      obtain ⟨hf, he⟩ := scanS_out 3 _ _ _ hs
      obtain ⟨h1, h2, h3⟩ := fine_has 3 t hf
      have hb := bnd3 (Nat.le_refl 3)
      have lz : (cs z).length = z.length := by simp [cs, Str.length]
      have lr : r.length ≤ z.length := by rw [← lz, he, List.length_append]; omega
      have nv : v ≠ .non := by
        obtain ⟨a, ps, e, _⟩ := hv
        rw [e]
        exact fun z => nomatch z
      refine ⟨p, _, rfl, .inl (.inl hp), rfl, _, _, rfl, _, _, rfl, rfl, ?_⟩
      refine ⟨_, rfl, rfl, _, rfl, ?_⟩
      refine iteN nv ?_
      refine ⟨_, rfl, _, rfl, z, rfl, sz5 hz, rfl, _, rfl, ?_⟩
      cases r with
      | cons c r =>
        have q1 : Q .non H1 := by
          have y := q H1 s1
          unfold shapeOf at y
          rw [hs] at y
          exact y
        refine iteNY (fun e => ?_) (iteT q1)
        have e := V.int.inj e
        rw [List.length_cons] at e lr
        omega
      | nil =>
        refine iteNN (by rw [List.length_nil, Nat.sub_zero]) ?_
        refine ⟨_, rfl, t, v, rfl, hv, by omega, by omega, h3, fun H2 s2 => ?_⟩
        refine ⟨_, rfl, ?_⟩
        have y := q H2 (s1.trans s2)
        unfold shapeOf at y
        rw [hs] at y
        by_cases hbd : t.recs ≤ 5 ∧ t.plains ≤ 5
        · have y2 : ∀ v, TrAt H2 t v → Q v H2 := by simpa only [if_pos hbd] using y
          refine iteE (c := false) (by rw [decide_eq_true hbd]; rfl) (fun z => nomatch z) fun _ => ?_
          exact ⟨_, rfl, y2 v (hv.same s2)⟩
        · have y2 : Q .non H2 := by simpa only [if_neg hbd] using y
          refine iteE (c := true) (by rw [decide_eq_false hbd]; rfl) (fun _ => y2) fun z => nomatch z
  · refine ⟨_, rfl, _, _, _, _, false, rfl, .ty "str", ht, kit_ty hk, false, rfl, ?_⟩
    exact iteT (q H (Same.refl _))
end
end Lx

namespace Lx
open PySem PySem.Spec PyProof.Rows L2 Ub Ur Ug Ue Up
section
variable {P : Program} {w : World} {K : PySem.W.Frag} {mg : Str → Option Value} {base : Heap}
theorem sc_Shape___init__ : FnScope ["self", "text", "tree", "spots", "word", "path", "shape", "field"] ["self", "text"] (defScope s_Shape___init__) := ⟨rfl, rfl, rfl, by decide +kernel, rfl, by decide +kernel, by decide +kernel⟩
theorem ok_Shape {fd : FuncData} (F : Df K ("Shape", some "__init__") "__init__" "Shape.__init__" s_Shape___init__ [] fd) (T : Tx K mg) (hb : Binds K fd ["self", "text"] []) (c_tree_of : Cal P w K mg base 7 "tree_of" ["text"] (sp_tree_of K)) (c_text_of : Cal P w K mg base 4 "text_of" ["tree"] (sp_tree 4 fun t => .str t.text)) (x_BadShape : CalX P w K mg base 1 "BadShape" (He.ga K "BadShape") "text") :
    ∀ d, FnOk P w K mg base (CX P w) (8 + 2 * d) (He.fAd K ("Shape", some "__init__")) fd ["self", "text"] (sp_shape K (He.ga K "Shape") (He.ga K "BadShape") d)
  | 0 => ⟨fun vs H Q E h => by obtain ⟨x, y, dx, rfl, _⟩ := h; rfl, fun A outer s H args us vs Q E _ _ _ _ h => by
      obtain ⟨x, y, dx, _, _, h⟩ := h
      rcases h with ⟨t, _, h, _⟩ | ⟨h, _⟩
      · exact absurd h (Nat.not_lt_zero _)
      · exact absurd h (Nat.lt_irrefl _)⟩
  | d + 1 => by
    have m_Shape : CalM P w K mg base (8 + 2 * d) "Shape" (He.ga K "Shape") ["self", "text"] (sp_shape K (He.ga K "Shape") (He.ga K "BadShape") d) := ⟨_, fd, T.m_Shape, ok_Shape F T hb c_tree_of c_text_of x_BadShape d, T.g_Shape, hb⟩
    rw [show 8 + 2 * (d + 1) = (9 + 2 * d) + 1 by omega]
    refine F.ok (k := 9 + 2 * d) sc_Shape___init__ (fun vs H Q E h => by obtain ⟨x, y, dx, rfl, _⟩ := h; rfl) (fun cdv A outer s H vs Q E hr h => ?_)
    obtain ⟨x, y, dx, rfl, hx, h⟩ := h
    refine ⟨_, (pss_cons (ps_set (i := 2) sc_Shape___init__.nd rfl (by first | exact Or.inl rfl | exact Or.inr rfl) (pe_cal c_tree_of (hr.mono (by omega)) (by rfl) (pa_cons (pv 1) pa_nil)))
      (pss_cons (ps_if (pt_cmpR op_isN (pv 2) pe_non (nomark _))
        (pss_one (ps_raiseX x_BadShape rfl (takes_of rfl rfl rfl rfl) (hr.mono (by omega)) (by rfl) (pv 1)))
        pss_nil)
      (pss_cons (ps_fld (pv 0) (pv 1) rfl)
      (pss_cons (ps_fld (pv 0) (pv 2) rfl)
      (pss_cons (ps_fld (pv 0) (pe_callTy (call_tuple_ofK K) (by rfl) T.tuple (by decide +kernel) (pa_cons (pe_lc (own := [("word", 4), ("field", 7)]) (by rfl) sc_Shape___init__.nd (pi_tupK K (pv 2)) (blkOk_by (N := ["self", "text", "tree", "spots", "word", "path", "shape", "field"]) (sc := (defScope s_Shape___init__)) (by decide +kernel)) (fun _ _ _ _ _ => (pg_tupK K (n := 2) rfl (pgs_cons (pg_name (i := 4) sc_Shape___init__.nd rfl (by first | exact Or.inl rfl | exact Or.inr rfl)) (pgs_cons (pg_name (i := 7) sc_Shape___init__.nd rfl (by first | exact Or.inl rfl | exact Or.inr rfl)) pgs_nil)))) (fun _ _ _ _ _ => pts_nil) (fun _ _ _ _ _ => (pv 4))) pa_nil)) rfl)
      (pss_cons (ps_fld (pv 0) (pe_dc (own := [("word", 4), ("field", 7)]) (by rfl) sc_Shape___init__.nd (pi_tupK K (pv 2)) (blkOk_by (N := ["self", "text", "tree", "spots", "word", "path", "shape", "field"]) (sc := (defScope s_Shape___init__)) (by decide +kernel)) (fun _ _ _ _ _ => (pg_tupK K (n := 2) rfl (pgs_cons (pg_name (i := 4) sc_Shape___init__.nd rfl (by first | exact Or.inl rfl | exact Or.inr rfl)) (pgs_cons (pg_name (i := 7) sc_Shape___init__.nd rfl (by first | exact Or.inl rfl | exact Or.inr rfl)) pgs_nil)))) (fun _ _ _ _ _ => pts_nil) (fun _ _ _ _ _ => (pv 4)) (fun _ _ _ _ _ => (pe_makeS m_Shape (fun _ => passE0) (hr.mono (by omega)) (by rfl) (pa_cons (pe_cal c_text_of (hr.mono (by omega)) (by rfl) (pa_cons (pv 7) pa_nil)) pa_nil)))) rfl)
      (pss_cons (ps_set (i := 3) sc_Shape___init__.nd rfl (by first | exact Or.inl rfl | exact Or.inr rfl) (pe_disp (pps_cons pe_str (pv 0) pps_nil) rfl rfl (by simp) (by decide)))
      (pss_cons (ps_for (passes_of rfl) rfl (pi_tupK K (pe_fldK K (pv 0) rfl)) (pg_name (i := 4) sc_Shape___init__.nd rfl (by first | exact Or.inl rfl | exact Or.inr rfl))
        (pss_one (ps_lock (ps_for (passes_of rfl) rfl (pi_items (pe_fldK K (pe_dget (units1 hr) (pe_fldK K (pv 0) rfl) (pv 4) (fun _ _ => rfl)) rfl)) (pg_tupK K (n := 2) rfl (pgs_cons (pg_name (i := 5) sc_Shape___init__.nd rfl (by first | exact Or.inl rfl | exact Or.inr rfl)) (pgs_cons (pg_name (i := 6) sc_Shape___init__.nd rfl (by first | exact Or.inl rfl | exact Or.inr rfl)) pgs_nil)))
            (pss_one (ps_dput (units1 hr) (pv 3) (pe_op op_add_str (pe_op op_add_str pe_str (pv 4)) (pe_op op_mul_si (pv 5) (pe_callTy call_int1 (by rfl) T.int (by decide +kernel) (pa_cons (pe_cmpR op_ne (pv 5) pe_str (nomark _)) pa_nil)))) (pv 6) rfl))))))
      (pss_one (ps_fld (pv 0) (pv 3) rfl)))))))))), ?_⟩
    rcases h with h | ⟨_, hbad, qe⟩
    rotate_left
    · -- no shape
      rcases hbad with ⟨z, rfl, hz, hn⟩ | hn
      · refine ⟨_, rfl, _, rfl, .inl ⟨z, rfl, hz, fun H1 s1 => ?_⟩⟩
        rw [hn]
        refine ⟨_, rfl, rfl, _, rfl, ?_⟩
        exact iteT ⟨_, rfl, mkX fun e H2 s2 ne he => qe e H2 (s1.trans s2) (s1.free ne) he⟩
      · refine ⟨_, rfl, _, rfl, .inr ⟨hn, fun H1 s1 => ?_⟩⟩
        refine ⟨_, rfl, rfl, _, rfl, ?_⟩
        exact iteT ⟨_, rfl, mkX fun e H2 s2 ne he => qe e H2 (s1.trans s2) (s1.free ne) he⟩
    obtain ⟨t, hg, hd, rfl, q⟩ := h
    obtain ⟨hdep, hsz, hsh⟩ := good_has hg
    obtain ⟨gf, gn⟩ := good_fields hg
    have hlen := (Tr.join_le hsh).2
    refine ⟨_, rfl, _, rfl, .inl ⟨t.text, rfl, by omega, fun H1 s1 => ?_⟩⟩
    rw [shapeOf_in hg]
    intro v hv
    obtain ⟨a, ps, rfl, ha, hf⟩ := id hv
    have lp := hf.len
    have lf := t.fields_len
    refine ⟨_, rfl, rfl, _, rfl, ?_⟩
    refine iteN (fun z => nomatch z) ?_
    -- self.text, self.tree
    have hx1 := s1 _ _ hx
    refine ⟨_, rfl, _, rfl, x, _, dx, _, rfl, hx1, T.k_Shape, T.n_Shape_text, by decide, ?_⟩
    refine ⟨_, rfl, _, rfl, x, _, dx, _, rfl, upd_same, T.k_Shape, T.n_Shape_tree, (by show 1 < 1000; decide), ?_⟩
    refine absH fun J1 eJ1 => ?_
    have kJ1 : ∀ b o, H b = some o → b ≠ x → J1 b = some o := fun b o h z => by
      rw [eJ1, upd_ne z, upd_ne z]
      exact s1 _ _ h
    have k1 : ∀ b o, H1 b = some o → b ≠ x → J1 b = some o := fun b o h z => by rw [eJ1, upd_ne z, upd_ne z]; exact h
    have xJ1 : J1 x = some (.ins (He.ga K "Shape") dx [("text", .str t.text), ("tree", .ref a)]) := by
      rw [eJ1, upd_same, putF_snoc (fs := []) (by decide), putF_snoc (show ("tree" : Str) ∉ [("text" : Str)] by decide)]
      rfl
    have tup1 : ∀ c xs, H1 c = some (.tup xs) → J1 c = some (.tup xs) := fun c xs z => k1 _ _ z fun e => by
      rw [e, hx1] at z
      cases z
    clear eJ1
    have ha1 := tup1 _ _ ha
    have hf1 : FsAt J1 t ps := hf.tups tup1
    -- self.names
    refine ⟨_, rfl, a, rfl, ⟨_, .inl (.inl ha1)⟩, fun D nD => ?_⟩
    refine lcM (walk_tup (xs := ps)) t.fields lp.symm (fun m => some (.str m.1)) (fun H s => Same.tup s (.inl (.inl ha1))) (sz4 (by omega)) nD (fun i z m H' hz hm s' => ?_) (fun J2 s2 d2 => ?_)
    · obtain ⟨p, q', g1, g2, g3⟩ := hf1.get hm
      rw [g1] at hz
      cases hz
      intro Q1 Q0 h1 h0
      exact ⟨p, _, rfl, .inl (.inl (s' _ _ g2)), rfl, _, _, rfl, _, _, rfl, rfl, rfl, _, rfl, h1 _ _ rfl (Same.refl _)⟩
    rw [List.filterMap_eq_map'] at d2
    refine ⟨D, _, rfl, .inl ⟨.inl (.inl d2), fun na nna => ?_⟩⟩
    have xJ2 := same_upd (o := .tup (t.fields.map fun m => V.str m.1)) nna _ _ (s2 _ _ xJ1)
    refine ⟨_, rfl, x, _, dx, _, rfl, xJ2, T.k_Shape, T.n_Shape_names, (by show 2 < 1000; decide), ?_⟩
    refine absH fun J3 eJ3 => ?_
    have nax : na ≠ x := fun e => by
      rw [e, s2 _ _ xJ1] at nna
      cases nna
    have k3 : ∀ b o, J1 b = some o → b ≠ x → J3 b = some o := fun b o h z => by
      rw [eJ3, upd_ne z]
      exact same_upd nna _ _ (s2 _ _ h)
    have kH3 : ∀ b o, H b = some o → b ≠ x → J3 b = some o := fun b o h z => k3 _ _ (kJ1 _ _ h z) z
    have xJ3 : J3 x = some (.ins (He.ga K "Shape") dx [("text", .str t.text), ("tree", .ref a), ("names", .ref na)]) := by
      rw [eJ3, upd_same, putF_snoc (show ("names" : Str) ∉ [("text" : Str), "tree"] by decide)]
      rfl
    have naJ3 : J3 na = some (.tup (t.fields.map fun m => V.str m.1)) := by rw [eJ3, upd_ne nax, upd_same]
    have tup3 : ∀ c xs, J1 c = some (.tup xs) → J3 c = some (.tup xs) := fun c xs z => k3 _ _ z fun e => by
      rw [e, xJ1] at z
      cases z
    clear eJ3
    have ha3 := tup3 _ _ ha1
    have hf3 : FsAt J3 t ps := hf1.tups tup3
    -- self.fields
    refine ⟨_, rfl, a, rfl, ⟨_, .inl (.inl ha3)⟩, fun D' nD' => ?_⟩
    refine dc_tup (xs := ps) (fun i G => ∃ g : Sg, g.tr.fields = t.fields.take i ∧ G D' = some (.dK g.dict) ∧ ShL (fun b => J3 b = none ∧ b ≠ D') (He.ga K "Shape") G g ∧ Same J3 G) ?_ (fun i G _ p => ?_) (fun i z G hz p => ?_) (fun G p => ?_)
    · exact ⟨.nil, rfl, upd_same, trivial, same_upd nD'⟩
    · obtain ⟨_, _, _, _, sG⟩ := p
      exact .inl (.inl (sG _ _ ha3))
    · obtain ⟨g, e1, e2, e3, sG⟩ := p
      have hi : i < t.fields.length := by
        rw [← lp]
        exact (List.getElem?_eq_some_iff.mp hz).1
      have hm : t.fields[i]? = some t.fields[i] := List.getElem?_eq_getElem hi
      generalize t.fields[i] = m at hm
      have hmm := List.mem_of_getElem? hm
      obtain ⟨p, q', g1, g2, g3⟩ := hf3.get hm
      rw [g1] at hz
      cases hz
      have dl := Tr.depth_lt hmm
      obtain ⟨md, ms, mh⟩ := good_has (gf m hmm).1
      refine ⟨p, _, rfl, .inl (.inl (sG _ _ g2)), rfl, _, _, rfl, _, _, rfl, rfl, rfl, _, rfl, ?_⟩
      refine ⟨_, rfl, m.2, q', rfl, g3.same sG, by omega, by omega, mh, fun G2 s2 x' dx' nx' ndx' hne => ?_⟩
      refine ⟨x', _, dx', rfl, upd_same, .inl ⟨m.2, (gf m hmm).1, by omega, rfl, fun g' G3 eg' k3' sh3 => ?_⟩⟩
      have D2 := s2 _ _ e2
      have s23 : Same G2 G3 := fun b o h => k3' b o (by rw [upd_ne (ne_of_none h nx'), upd_ne (ne_of_none h ndx')]; exact h) (ne_of_none h nx')
      have sG3 : Same G G3 := s2.trans s23
      have D3 := sG3 _ _ e2
      have ld := g.dict_len
      have lt : (t.fields.take i).length ≤ i := by rw [List.length_take]; omega
      refine ⟨rfl, g.dict, .inr m.1, rfl, D3, Nat.lt_of_le_of_lt (m := 1000) (by rw [ld, e1]; omega) (by decide), ?_⟩
      have fresh : m.1 ∉ g.tr.fields.map (·.1) := by
        rw [e1]
        intro z
        have nd := gn
        rw [← List.take_append_drop i t.fields, List.map_append] at nd
        have hdr : t.fields.drop i = m :: t.fields.drop (i + 1) := by
          rw [List.drop_eq_getElem_cons hi]
          have := (List.getElem?_eq_some_iff.mp hm).2
          rw [this]
        rw [hdr, List.map_cons] at nd
        exact (List.nodup_append.mp nd).2.2 _ z _ (List.mem_cons_self ..) rfl
      have kz : Kz (fun b => J3 b = none ∧ b ≠ D') G3 (upd G3 D' (.dK (putK g.dict (.inr m.1) (.ref x')))) := fun b o h _ z => by
        have hb : b ≠ D' := by
          rcases z with z | ⟨xs, z⟩
          · exact z.2
          · intro e
            rw [e, D3, z] at h
            cases h
        rw [upd_ne hb]
        exact h
      have x3 : J3 x' = none := sG.free (s2.free nx')
      have xD : x' ≠ D' := fun e => by
        rw [e, D2] at nx'
        cases nx'
      have shn : ShG (fun b => J3 b = none ∧ b ≠ D') (He.ga K "Shape") G3 x' g' := sh3.imp fun b z _ => by
        rcases z with z | z
        · rw [z]
          exact ⟨x3, xD⟩
        · have hbx : b ≠ x' := fun e => by
            rw [e, upd_same] at z
            cases z
          rw [upd_ne hbx] at z
          have hbd : b ≠ dx' := fun e => by
            rw [e, upd_same] at z
            cases z
          rw [upd_ne hbd] at z
          refine ⟨sG.free (s2.free z), fun e => ?_⟩
          rw [e, D2] at z
          cases z
      refine ⟨g.app (.cons m.1 x' g' .nil), ?_, ?_, ?_, fun b o h => ?_⟩
      · rw [Sg.app_tr, e1, List.take_add_one, hm]
        show _ ++ [(m.1, g'.tr)] = _
        rw [eg']
        rfl
      · rw [upd_same, Sg.put_new fresh, Sg.app_dict]
        rfl
      · exact ((e3.kz (kz_of sG3)).kz kz).app ⟨shn.1.kz kz, shn.2.kz kz, trivial⟩
      · rw [upd_ne (ne_of_none h nD')]
        exact sG3 _ _ (sG _ _ h)
    obtain ⟨g, e1, e2, e3, sG⟩ := p
    rw [lp, List.take_length] at e1
    have etr : g.tr = t := by rw [← Tr.of_fields g.tr, e1, Tr.of_fields]
    have xG := sG _ _ xJ3
    refine ⟨_, rfl, x, _, dx, _, rfl, xG, T.k_Shape, T.n_Shape_fields, (by show 3 < 1000; decide), ?_⟩
    refine absH fun J4 eJ4 => ?_
    have k4 : ∀ b o, G b = some o → b ≠ x → J4 b = some o := fun b o h z => by rw [eJ4, upd_ne z]; exact h
    have xJ4 : J4 x = some (.ins (He.ga K "Shape") dx [("text", .str t.text), ("tree", .ref a), ("names", .ref na), ("fields", .ref D')]) := by
      rw [eJ4, upd_same, putF_snoc (show ("fields" : Str) ∉ [("text" : Str), "tree", "names"] by decide)]
      rfl
    clear eJ4
    have k34 : ∀ b o, J3 b = some o → b ≠ x → J4 b = some o := fun b o h z => k4 _ _ (sG _ _ h) z
    have hDx : D' ≠ x := fun e => by
      rw [e, xJ3] at nD'
      cases nD'
    have D4 : J4 D' = some (.dK g.dict) := k4 _ _ e2 hDx
    have sh4 : ShL (fun b => J3 b = none ∧ b ≠ D') (He.ga K "Shape") J4 g := e3.kz fun b o h _ z => k4 _ _ h fun e => by
      rcases z with z | ⟨xs, z⟩
      · rw [e, xJ3] at z
        exact nomatch z.1
      · rw [e, xG, z] at h
        cases h
    -- spots = {'.': self}
    refine fun sa nsa => ?_
    refine ⟨_, rfl, upd_same, [(.inr ".", .ref x)], rfl, (by show 1 ≤ 15; decide), ?_⟩
    refine absH fun J5 eJ5 => ?_
    have saJ5 : J5 sa = some (.dK [(.inr ".", .ref x)]) := by rw [eJ5]; exact upd_same
    have s45 : Same J4 J5 := fun b o h => by
      have hb := ne_of_none h nsa
      rw [eJ5, upd_ne hb, upd_ne hb]
      exact h
    clear eJ5
    have sh5 : ShL (fun b => (J3 b = none ∧ b ≠ D') ∧ b ≠ sa) (He.ga K "Shape") J5 g := (sh4.imp (Z' := fun b => (J3 b = none ∧ b ≠ D') ∧ b ≠ sa) fun b z hn => ⟨z, fun e => hn (by rw [e]; exact nsa)⟩).kz (kz_of s45)
    have xJ5 := s45 _ _ xJ4
    have xsa : x ≠ sa := ne_of_none xJ4 nsa
    have D5 := s45 _ _ D4
    have Dsa : D' ≠ sa := ne_of_none D4 nsa
    have na5 : J5 na = some (.tup (t.fields.map fun m => V.str m.1)) := s45 _ _ (k34 _ _ naJ3 nax)
    have nasa : na ≠ sa := ne_of_none (k34 _ _ naJ3 nax) nsa
    refine ⟨_, rfl, x, _, dx, _, .ref na, rfl, xJ5, T.k_Shape, T.n_Shape_names, (by rfl), na, rfl, ⟨_, .inl (.inl na5)⟩, ?_⟩
    refine for_it (walk_tup (K := K) (a := na) (xs := t.fields.map fun m => V.str m.1)) (fun i σ G => ∃ (y4 y5 y6 : Option V) (g1 g2 : Sg), σ = [some (.ref x), some (.str t.text), some (.ref a), some (.ref sa), y4, y5, y6, none] ∧ g = g1.app g2 ∧ g1.tr.fields.length = i ∧ G sa = some (.dK (g1.puts [(.inr ".", .ref x)])) ∧ ∀ b o, J5 b = some o → b ≠ sa → G b = some o) ?_ (fun i σ G _ p => ?_) (fun i z σ G G' hi p y => ?_) (fun σ G p => ?_)
    · exact ⟨none, none, none, .nil, g, rfl, rfl, rfl, saJ5, fun b o h _ => h⟩
    · obtain ⟨_, _, _, _, _, _, _, _, _, k⟩ := p
      exact .inl (.inl (k _ _ na5 nasa))
    · obtain ⟨y4, y5, y6, g1, g2, rfl, eg, lg, saG, kG⟩ := p
      obtain ⟨rfl, hz⟩ := y
      rw [List.getElem?_map] at hz
      cases hm : t.fields[i]? with
      | none => rw [hm] at hz; cases hz
      | some m =>
      rw [hm] at hz
      cases hz
      have hmm := List.mem_of_getElem? hm
      have ef := Sg.app_tr g1 g2
      rw [← eg, e1] at ef
      cases g2 with
      | nil =>
        rw [show (Sg.nil).tr.fields = [] from rfl, List.append_nil] at ef
        rw [ef, List.getElem?_eq_none (by omega)] at hm
        cases hm
      | cons wd p sub r =>
      have em : m = (wd, sub.tr) := by
        rw [ef, List.getElem?_append_right (by omega), lg, Nat.sub_self] at hm
        exact (Option.some.inj hm).symm
      subst em
      have fresh : wd ∉ g1.tr.fields.map (·.1) := fun z => by
        have nd := gn
        rw [ef, List.map_append] at nd
        exact (List.nodup_append.mp nd).2.2 _ z _ (by show wd ∈ wd :: r.tr.fields.map (·.1); exact List.mem_cons_self ..) rfl
      obtain ⟨gs, gw⟩ := gf _ hmm
      obtain ⟨sd, ss, ssh⟩ := good_has gs
      have lw : wd.length ≤ 8 := (isWord_len gw).2
      have sh6 : ShL (fun b => (J3 b = none ∧ b ≠ D') ∧ b ≠ sa) (He.ga K "Shape") J5 (.cons wd p sub r) := ShL.right (g := g1) (by rw [← eg]; exact sh5)
      obtain ⟨⟨dxp, tvp, nap, fap, sp, h1, h2, h3, h4, h5, zx, zf, zs⟩, _, _⟩ := sh6
      have xsp : x ≠ sp := fun e => by
        rw [← e, xJ3] at zs
        exact nomatch zs.1.1
      have psp : p ≠ sp := fun e => by
        rw [e, h5] at h1
        cases h1
      have spG := kG _ _ h5 zs.2
      refine ⟨sp, _, spG, trivial, fun od => ?_⟩
      generalize hkv : sub.spots p = kvs at *
      have lk : kvs.length ≤ 40 := by
        rw [← hkv]
        have := puts_len sub [(.inr ".", .ref p)]
        simp only [List.length_cons, List.length_nil] at this
        have ss' : sub.tr.size ≤ 39 := ss
        exact Nat.le_trans this (by omega)
      have kk : KeyOk 40 kvs := by
        rw [← hkv]
        refine puts_ok ssh (fun m hm => ?_) (fun kv hk => ?_)
        · have := Tr.depth_lt hm
          have sd' : sub.tr.depth ≤ 3 := sd
          omega
        · simp only [List.mem_cons, List.not_mem_nil, or_false] at hk
          rw [hk]
          exact ⟨".", rfl, by rw [dot_len]; omega⟩
      have la : (g1.puts [(.inr ".", .ref x)]).length ≤ 40 := by
        have h1 := puts_len g1 [(.inr ".", .ref x)]
        have h2 := app_size g1 (.cons wd p sub r)
        rw [← eg, etr] at h2
        simp only [List.length_cons, List.length_nil] at h1
        omega
      have xG := kG _ _ xJ5 xsa
      have DG := kG _ _ D5 Dsa
      have pG := kG _ _ h1 zx.2
      have dget : DGet (upd G' sp (.frz od (.dK kvs))) D' (.str wd) (some (.ref p)) := by
        have z := DGet.k (k := .inr wd) (show (upd G' sp (.frz od (.dK kvs))) D' = some (.dK g.dict) by rw [upd_ne (Ne.symm zs.1.2)]; exact DG)
        rw [eg, valV_at fresh] at z
        exact z
      refine ⟨_, rfl, x, _, dx, _, .ref D', rfl, (by rw [upd_ne xsp]; exact xG), T.k_Shape, T.n_Shape_fields, (by rfl), _, rfl, D', .ref p, rfl, dget, p, _, dxp, _, .ref sp, rfl, (by rw [upd_ne psp]; exact pG), T.k_Shape, T.n_Shape_spots, (by rfl), sp, od, kvs, rfl, upd_same, ?_⟩
      refine for_it (walk_items (d := sp) (o := od) (kvs := kvs)) (fun j σ Gj => ∃ (y5 y6 : Option V), σ = [some (.ref x), some (.str t.text), some (.ref a), some (.ref sa), some (.str wd), y5, y6, none] ∧ Gj sp = some (.frz od (.dK kvs)) ∧
        Gj sa = some (.dK ((kvs.take j).foldl (fun a kv => putK a (Sg.ext wd kv.1) kv.2) (g1.puts [(.inr ".", .ref x)]))) ∧ ∀ b o, G' b = some o → b ≠ sa → b ≠ sp → Gj b = some o) ?_ (fun j σ Gj _ p => ?_) (fun j z σ Gj Gj' hj p y => ?_) (fun σ Gj p => ?_)
      · exact ⟨y5, y6, rfl, upd_same, by rw [upd_ne (Ne.symm zs.2)]; exact saG, fun b o h _ z => by rw [upd_ne z]; exact h⟩
      · obtain ⟨_, _, _, h, _⟩ := p
        exact h
      · obtain ⟨y5, y6, rfl, spJ, saJ, kJ⟩ := p
        obtain ⟨tt, x', y', rfl, nt, rfl, ex, ey⟩ := y
        have ex : (kvs[j]?.map fun kv => kV kv.1) = some x' := ex
        have ey : kvs[j]?.map Prod.snd = some y' := ey
        cases hkj : kvs[j]? with
        | none => rw [hkj] at ex; cases ex
        | some kv =>
        rw [hkj] at ex ey
        cases ex
        cases ey
        obtain ⟨pth, ek, lpt⟩ := kk kv (List.mem_of_getElem? hkj)
        obtain ⟨key, val⟩ := kv
        cases ek
        have ntsa : sa ≠ tt := ne_of_none saJ nt
        have ntsp : sp ≠ tt := ne_of_none spJ nt
        refine ⟨tt, _, rfl, .inl (.inl upd_same), rfl, _, _, rfl, _, _, rfl, rfl, ?_⟩
        have m01 := mulLen01 pth (!decide (V.str pth = V.str "."))
        refine ⟨_, rfl, _, rfl, _, rfl, ".", wd, rfl, rfl, sz4 (by rw [dot_len]; omega), _, rfl, _, rfl, rfl, .inr ⟨_, rfl, ?_⟩⟩
        refine ⟨pth, _, 40, 1, rfl, rfl, lpt, (by split <;> decide), (by split <;> decide), by decide, by decide, ?_⟩
        refine ⟨_, _, rfl, rfl, sz4 (Nat.le_trans (Nat.add_le_add_left (mulLen01 pth _) _) (by rw [len_app, dot_len]; omega)), ?_⟩
        have fl := fold_len wd (kvs.take j) (g1.puts [(.inr ".", .ref x)])
        rw [List.length_take] at fl
        refine ⟨sa, _, rfl, DPut.k (k := .inr _) (show (upd Gj tt (.tup [kV (.inr pth), val])) sa = some (.dK _) by rw [upd_ne ntsa]; exact saJ) (Nat.lt_of_le_of_lt (m := 1000) (by omega) (by decide)), ?_⟩
        refine ⟨_, _, rfl, ?_, ?_, fun b o h z1 z2 => ?_⟩
        · rw [upd_ne zs.2, upd_ne ntsp]
          exact spJ
        · rw [upd_same, List.take_add_one, hkj, List.foldl_append]
          show _ = some (HO.dK (putK _ (Sg.ext wd (.inr pth)) val))
          rw [ext_eq]
          rfl
        · rw [upd_ne z1, upd_ne (ne_of_none (kJ _ _ h z1 z2) nt)]
          exact kJ _ _ h z1 z2
      · obtain ⟨y5, y6, rfl, spJ, saJ, kJ⟩ := p
        refine ⟨spJ, _, _, _, g1.app (.cons wd p sub .nil), r, rfl, ?_, ?_, ?_, fun b o h z => ?_⟩
        · rw [eg, app_assoc]
          rfl
        · rw [Sg.app_tr, List.length_append, lg]
          rfl
        · rw [upd_ne (Ne.symm zs.2), saJ, List.take_length, Sg.app_puts, ← hkv]
          rfl
        · by_cases e : b = sp
          · rw [e, upd_same, ← h5, ← e]
            exact h.symm ▸ rfl
          · rw [upd_ne e]
            exact kJ _ _ (kG _ _ h z) z e
    · obtain ⟨y4, y5, y6, g1, g2, rfl, eg, lg, saG, kG⟩ := p
      rw [List.length_map] at lg
      have e2n : g2 = .nil := by
        cases g2 with
        | nil => rfl
        | cons w p s r =>
          have := congrArg List.length (Sg.app_tr g1 (.cons w p s r))
          rw [← eg, etr, List.length_append, lg] at this
          have e : (Sg.cons w p s r).tr.fields.length = r.tr.fields.length + 1 := rfl
          omega
      rw [e2n, app_nil] at eg
      subst eg
      have xG5 := kG _ _ xJ5 xsa
      refine ⟨_, rfl, _, rfl, x, _, dx, _, rfl, xG5, T.k_Shape, T.n_Shape_spots, (by show 4 < 1000; decide), ?_⟩
      refine absH fun J6 eJ6 => ?_
      have k6 : ∀ b o, G b = some o → b ≠ x → J6 b = some o := fun b o h z => by rw [eJ6, upd_ne z]; exact h
      have xJ6 : J6 x = some (.ins (He.ga K "Shape") dx [("text", .str t.text), ("tree", .ref a), ("names", .ref na), ("fields", .ref D'), ("spots", .ref sa)]) := by
        rw [eJ6, upd_same, putF_snoc (show ("spots" : Str) ∉ [("text" : Str), "tree", "names", "fields"] by decide)]
        rfl
      clear eJ6
      have kH : ∀ b o, H b = some o → b ≠ x → J6 b = some o := fun b o h z => by
        have h4 := k34 _ _ (kH3 _ _ h z) z
        exact k6 _ _ (kG _ _ (s45 _ _ h4) (ne_of_none h4 nsa)) z
      have fr : ∀ b, J3 b = none → b = x ∨ H b = none := fun b hb => by
        by_cases e : b = x
        · exact .inl e
        · cases hH : H b with
          | none => exact .inr rfl
          | some o =>
            rw [kH3 _ _ hH e] at hb
            cases hb
      have J3sa : J3 sa = none := by
        cases h3 : J3 sa with
        | none => rfl
        | some o =>
          rw [k34 _ _ h3 (Ne.symm xsa)] at nsa
          cases nsa
      have tup6 : ∀ c xs, J3 c = some (.tup xs) → J6 c = some (.tup xs) := fun c xs z => by
        have cx : c ≠ x := fun e => by
          rw [e, xJ3] at z
          cases z
        have h4 := k34 _ _ z cx
        exact k6 _ _ (kG _ _ (s45 _ _ h4) (ne_of_none h4 nsa)) cx
      refine q g J6 etr kH ⟨⟨dx, .ref a, na, D', sa, ?_, ?_, ?_, k6 _ _ (kG _ _ D5 Dsa) hDx, k6 _ _ saG (Ne.symm xsa), .inl rfl, fr _ nD', fr _ J3sa⟩, ?_⟩
      · rw [etr]
        exact xJ6
      · rw [etr]
        exact ⟨a, ps, rfl, tup6 _ _ ha3, hf3.tups tup6⟩
      · rw [etr]
        exact tup6 _ _ naJ3
      · refine ShL.imp (Z := fun b => (J3 b = none ∧ b ≠ D') ∧ b ≠ sa) (fun b z _ => fr b z.1.1) (sh5.kz fun b o h hn z => ?_)
        have hbs : b ≠ sa := by
          rcases z with z | ⟨xs, z⟩
          · exact z.2
          · intro e
            rw [e, saJ5, z] at h
            cases h
        have hbx : b ≠ x := by
          rcases z with z | ⟨xs, z⟩
          · intro e
            rw [e, xJ3] at z
            exact nomatch z.1.1
          · intro e
            rw [e, xJ5, z] at h
            cases h
        exact k6 _ _ (kG _ _ h hbs) hbx
end
end Lx

namespace Lx
open PySem PySem.Spec PyProof.Rows L2 Ub Ur Ug Ue Up Uo Ve Va
section
variable {P : Program} {w : World} {K : PySem.W.Frag} {mg : Str → Option Value} {base : Heap}
theorem sc_get : FnScope ["self", "path"] ["self", "path"] (defScope s_Shape___getitem__) := ⟨rfl, rfl, rfl, by decide +kernel, rfl, by decide +kernel, by decide +kernel⟩
theorem ok_get {fd : FuncData} (F : Df K ("Shape", some "__getitem__") "__getitem__" "Shape.__getitem__" s_Shape___getitem__ [] fd) (T : Tx K mg) (x_BadPath : CalX P w K mg base 1 "BadPath" (He.ga K "BadPath") "path") :
    FnOk P w K mg base (CX P w) 4 (He.fAd K ("Shape", some "__getitem__")) fd ["self", "path"] (sp_get K (He.ga K "Shape") (He.ga K "BadPath")) := by
  refine F.ok sc_get (fun vs H Q E h => by obtain ⟨x, g, Z, y, rfl, _⟩ := h; rfl) (fun cdv A outer s H vs Q E hr h => ?_)
  obtain ⟨x, g, Z, y, rfl, sh, hg, h⟩ := h
  refine ⟨_, (pss_cons (ps_if (PW.pt (pw_or (pt_not (pt_val (pe_callB (call_isiK' K) (by rfl) T.isinstance (by decide +kernel) (pa_cons (pv 1) (pa_cons (pe_bltn (v := .ty "str") (by rfl) T.str (by decide +kernel) rfl) pa_nil))))) (pw_or1 (pt_cmp (pc_dnotin (units1 hr) (pv 1) (pe_fldK K (pv 0) rfl)) (by rfl)))))
        (pss_one (ps_raiseX x_BadPath rfl (takes_of rfl rfl rfl rfl) (hr.mono (by omega)) (by rfl) (pv 1)))
        pss_nil)
      (pss_one (ps_ret (pe_dget (units1 hr) (pe_fldK K (pv 0) rfl) (pv 1) (fun _ _ => rfl))))), ?_⟩
  obtain ⟨dx, tv, na, fa, sa, h1, h2, h3, h4, h5, _⟩ := sh.1
  rw [spots_eq x (good_W hg)] at h5
  have lk : ([("text", V.str g.tr.text), ("tree", tv), ("names", .ref na), ("fields", .ref fa), ("spots", .ref sa)] : List (Str × V)).lookup ("spots" : Str) = some (V.ref sa) := rfl
  have nd : ((gpaths x g).map (·.1)).Nodup := by rw [gpaths_keys]; exact paths_nodup (good_W hg)
  rcases h with ⟨m, hm, rfl, q⟩ | ⟨hno, q⟩
  · refine ⟨_, rfl, _, _, _, _, true, rfl, .ty "str", .base (.str m.1), kit_ty (by decide +kernel), true, rfl, ?_⟩
    refine iteE (c := false) rfl (fun z => nomatch z) fun _ => ?_
    have dg : DGet H sa (.str m.1) (some (.ref m.2.1)) := by
      have := DGet.k (H := H) (a := sa) (k := .inr m.1) h5
      rw [val_at nd m hm] at this
      exact this
    refine ⟨_, rfl, _, rfl, x, _, dx, _, _, rfl, h1, T.k_Shape, T.n_Shape_spots, lk, sa, _, rfl, dg, _, rfl, ?_⟩
    refine iteE (c := false) rfl (fun z => nomatch z) fun _ => ?_
    exact ⟨_, rfl, x, _, dx, _, _, rfl, h1, T.k_Shape, T.n_Shape_spots, lk, _, rfl, sa, _, rfl, dg, q⟩
  · rcases hno with ⟨T0, ht, hk⟩ | ⟨z, rfl, hz⟩
    · refine ⟨_, rfl, _, _, _, _, false, rfl, .ty "str", ht, kit_ty hk, false, rfl, ?_⟩
      exact iteT (iteT ⟨_, rfl, mkX fun e H2 s2 ne he => q e H2 s2 ne he⟩)
    · refine ⟨_, rfl, _, _, _, _, true, rfl, .ty "str", .base (.str z), kit_ty (by decide +kernel), true, rfl, ?_⟩
      refine iteE (c := false) rfl (fun z => nomatch z) fun _ => ?_
      have dg : DGet H sa (.str z) none := by
        have := DGet.k (H := H) (a := sa) (k := .inr z) h5
        rw [val_no (by rw [gpaths_keys]; exact hz)] at this
        exact this
      refine ⟨_, rfl, _, rfl, x, _, dx, _, _, rfl, h1, T.k_Shape, T.n_Shape_spots, lk, sa, _, rfl, dg, _, rfl, ?_⟩
      exact iteT ⟨_, rfl, mkX fun e H2 s2 ne he => q e H2 s2 ne he⟩
theorem sc_con : FnScope ["self", "path"] ["self", "path"] (defScope s_Shape___contains__) := ⟨rfl, rfl, rfl, by decide +kernel, rfl, by decide +kernel, by decide +kernel⟩
theorem ok_con {fd : FuncData} (F : Df K ("Shape", some "__contains__") "__contains__" "Shape.__contains__" s_Shape___contains__ [] fd) (T : Tx K mg) :
    FnOk P w K mg base CX0 1 (He.fAd K ("Shape", some "__contains__")) fd ["self", "path"] (sp_con K (He.ga K "Shape")) := by
  refine F.ok sc_con (fun vs H Q E h => by obtain ⟨x, g, Z, y, rfl, _⟩ := h; rfl) (fun cdv A outer s H vs Q E hr h => ?_)
  obtain ⟨x, g, Z, y, rfl, sh, hg, h⟩ := h
  refine ⟨_, PSs.nox (pss_one (ps_ret (pe_and (pe_callB (call_isiK' K) (by rfl) T.isinstance (by decide +kernel) (pa_cons (pv 1) (pa_cons (pe_bltn (v := .ty "str") (by rfl) T.str (by decide +kernel) rfl) pa_nil))) (pe_one (pe_cmp (pc_din (units1 hr) (pv 1) (pe_fldK K (pv 0) rfl)) (by rfl)))))), ?_⟩
  obtain ⟨dx, tv, na, fa, sa, h1, h2, h3, h4, h5, _⟩ := sh.1
  rw [spots_eq x (good_W hg)] at h5
  have lk : ([("text", V.str g.tr.text), ("tree", tv), ("names", .ref na), ("fields", .ref fa), ("spots", .ref sa)] : List (Str × V)).lookup ("spots" : Str) = some (V.ref sa) := rfl
  have nd : ((gpaths x g).map (·.1)).Nodup := by rw [gpaths_keys]; exact paths_nodup (good_W hg)
  rcases h with ⟨z, rfl, q⟩ | ⟨⟨T0, ht, hk⟩, q⟩
  · refine ⟨_, rfl, _, _, _, _, true, rfl, .ty "str", .base (.str z), kit_ty (by decide +kernel), true, rfl, ?_⟩
    have dg : DGet H sa (.str z) (valV ((gpaths x g).map ent) (.inr z)) := DGet.k (H := H) (a := sa) (k := .inr z) h5
    have e : (valV ((gpaths x g).map ent) (.inr z)).isSome = decide (z ∈ pks g.tr) := by
      by_cases hz : z ∈ pks g.tr
      · rw [decide_eq_true hz]
        have hz2 : z ∈ (gpaths x g).map (·.1) := by rw [gpaths_keys]; exact hz
        obtain ⟨m, hm, rfl⟩ := List.mem_map.mp hz2
        rw [val_at nd m hm]
        rfl
      · rw [decide_eq_false hz, val_no (by rw [gpaths_keys]; exact hz)]
        rfl
    rw [← e] at q
    exact iteT ⟨_, rfl, _, rfl, x, _, dx, _, _, rfl, h1, T.k_Shape, T.n_Shape_spots, lk, sa, _, rfl, dg, q⟩
  · refine ⟨_, rfl, _, _, _, _, false, rfl, .ty "str", ht, kit_ty hk, false, rfl, ?_⟩
    exact iteF q
theorem sc_eq : FnScope ["self", "other"] ["self", "other"] (defScope s_Shape___eq__) := ⟨rfl, rfl, rfl, by decide +kernel, rfl, by decide +kernel, by decide +kernel⟩
theorem ok_eq {fd : FuncData} (F : Df K ("Shape", some "__eq__") "__eq__" "Shape.__eq__" s_Shape___eq__ [] fd) (T : Tx K mg) :
    FnOk P w K mg base CX0 1 (He.fAd K ("Shape", some "__eq__")) fd ["self", "other"] (sp_eqS K (He.ga K "Shape")) := by
  refine F.ok sc_eq (fun vs H Q E h => by obtain ⟨x, g, Z, y, rfl, _⟩ := h; rfl) (fun cdv A outer s H vs Q E hr h => ?_)
  obtain ⟨x, g, Z, y, rfl, sh, h⟩ := h
  refine ⟨_, PSs.nox (pss_one (ps_ret (pe_and (pe_callB (call_isiK' K) (by rfl) T.isinstance (by decide +kernel) (pa_cons (pv 1) (pa_cons (pe_globR (by rfl) T.g_Shape) pa_nil))) (pe_one (pe_cmpR op_eq (pe_fldK K (pv 0) rfl) (pe_fldK K (pv 1) rfl) (nomark _)))))), ?_⟩
  obtain ⟨dx, tv, na, fa, sa, h1, _⟩ := sh.1
  rcases h with ⟨x', g', Z', rfl, sh', q⟩ | ⟨T0, ht, hk, q⟩
  · obtain ⟨dx', tv', na', fa', sa', h1', _⟩ := sh'.1
    refine ⟨_, rfl, _, _, _, _, true, rfl, .own _, T.ty.ty T.k_Shape h1', T.ty.kit, true, rfl, ?_⟩
    refine iteT ⟨_, rfl, x, _, dx, _, _, rfl, h1, T.k_Shape, T.n_Shape_text, rfl, _, rfl, x', _, dx', _, _, rfl, h1', T.k_Shape, T.n_Shape_text, rfl, rfl, ?_⟩
    have e : decide (V.str g.tr.text = V.str g'.tr.text) = decide (g.tr.text = g'.tr.text) := by
      by_cases c : g.tr.text = g'.tr.text
      · rw [decide_eq_true c, decide_eq_true (by rw [c])]
      · rw [decide_eq_false c, decide_eq_false (fun z => c (V.str.inj z))]
    rw [e]
    exact q
  · refine ⟨_, rfl, _, _, _, _, false, rfl, .own _, ht, hk, false, rfl, ?_⟩
    exact iteF q
end
end Lx

namespace Ve
open PySem PySem.Spec PyProof.Rows L2 Ub Ur Ug Ue Up Uo
/-! ### the law's own paths -/
def sub1 (m : Str × Tr) : List (Str × Tr) := (paths m.2).map fun q => (down m.1 q.1, q.2)
theorem fp_flat : ∀ t : Tr, fp t = t.fields.flatMap sub1
  | .nil => rfl
  | .cons w t r => by
    show ((("." : Str), t) :: fp t).map (fun m => (down w m.1, m.2)) ++ fp r = sub1 (w, t) ++ r.fields.flatMap sub1
    rw [fp_flat r]
    rfl
def upto (t : Tr) (i : Nat) : List (Str × Tr) := (("." : Str), t) :: (t.fields.take i).flatMap sub1
theorem upto_all (t : Tr) : upto t t.fields.length = paths t := by
  unfold upto paths
  rw [List.take_length, fp_flat]
theorem upto_next {t : Tr} {i : Nat} {m : Str × Tr} (h : t.fields[i]? = some m) : upto t (i + 1) = upto t i ++ sub1 m := by
  unfold upto
  rw [List.take_add_one, h, List.flatMap_append]
  simp
theorem fp_len (t : Tr) : (fp t).length = t.size := by
  induction t with
  | nil => rfl
  | cons w t r h1 h2 =>
    show (((("." : Str), t) :: fp t).map (fun m => (down w m.1, m.2)) ++ fp r).length = 1 + t.size + r.size
    rw [List.length_append, List.length_map, List.length_cons, h1, h2]
    omega
theorem upto_len (t : Tr) (i : Nat) : (upto t i).length ≤ 1 + t.size := by
  have : (upto t i).length ≤ (upto t t.fields.length).length := by
    unfold upto
    rw [List.length_cons, List.length_cons, List.take_length]
    have e : t.fields.flatMap sub1 = (t.fields.take i).flatMap sub1 ++ (t.fields.drop i).flatMap sub1 := by rw [← List.flatMap_append, List.take_append_drop]
    rw [e, List.length_append]
    omega
  rw [upto_all] at this
  have e : (paths t).length = 1 + t.size := by show (fp t).length + 1 = _; rw [fp_len]; omega
  omega
def sp_lpaths (d : Nat) : Sp := fun vs H Q _ => ∃ t v, vs = [v] ∧ TrAt H t v ∧ t.depth < d ∧ good t ∧ ∀ D ps H', Same H H' → H D = none → H' D = some (.lst ps) → FsAt H' (.ofFields (paths t)) ps → Q (.ref D) H'
theorem no_lpaths {P : Program} {w : World} {K : PySem.W.Frag} {mg : Str → Option Value} {base : Heap} {k : Nat} {f : Addr} {fd : FuncData} {x : Str} : FnOk P w K mg base CX0 k f fd [x] (sp_lpaths 0) :=
  ⟨fun vs H Q E h => by obtain ⟨t, v, rfl, _⟩ := h; rfl, fun A outer s H args us vs Q E _ _ _ _ h => by
    obtain ⟨t, v, _, _, h, _⟩ := h
    exact absurd h (Nat.not_lt_zero _)⟩
theorem mut_tups {H : Hp} {D : Addr} {xs ys : List V} (h : H D = some (.lst xs)) : ∀ c zs, H c = some (.tup zs) → (upd H D (.lst ys)) c = some (.tup zs) := fun c zs e => by
  rw [upd_ne (fun z => by rw [z, h] at e; cases e)]
  exact e
theorem sz6 {n : Nat} (h : n ≤ 10000) : n < sizeLine := Nat.lt_of_le_of_lt h (by decide)
theorem lnF {H : Hp} {l : List (Str × Tr)} {ps : List V} (h : FsAt H (.ofFields l) ps) : ps.length = l.length := by rw [h.len, Tr.fields_of]
end Ve

namespace Up
open PySem PySem.Spec PyProof.Rows L2 Ub Ur Ug Ue
/-! ### drawn trees -/
theorem fineF_of {fine : Tr → Prop} : ∀ (l : List (Str × Tr)) (n : Nat) (known : List Str), l ≠ [] → l.length ≤ n → (∀ m ∈ l, fine m.2 ∧ isWord m.1 = true ∧ m.1 ∉ known) → (l.map (·.1)).Nodup → FineF fine n known (Tr.ofFields l)
  | [], _, _, h, _, _, _ => absurd rfl h
  | _ :: _, 0, _, _, h, _, _ => by simp at h
  | (w, t) :: l, n + 1, known, _, hl, hm, hn => by
    obtain ⟨h1, h2, h3⟩ := hm (w, t) List.mem_cons_self
    rw [List.map_cons, List.nodup_cons] at hn
    refine ⟨h2, h3, h1, ?_⟩
    cases l with
    | nil => exact .inl rfl
    | cons m l =>
      refine .inr (fineF_of (m :: l) n (known ++ [w]) (by simp) (by simp at hl ⊢; omega) (fun y hy => ?_) hn.2)
      obtain ⟨g1, g2, g3⟩ := hm y (List.mem_cons_of_mem _ hy)
      refine ⟨g1, g2, fun z => ?_⟩
      rcases List.mem_append.mp z with z | z
      · exact g3 z
      · have e : y.1 = w := by simpa using z
        exact hn.1 (List.mem_map.mpr ⟨y, hy, e⟩)
theorem fineF_mono' {p q : Tr → Prop} : ∀ {n : Nat} {kn : List Str} {t : Tr}, (∀ m ∈ t.fields, p m.2 → q m.2) → FineF p n kn t → FineF q n kn t
  | 0, _, _, _, hf => hf.elim
  | _ + 1, _, .nil, _, hf => hf.elim
  | n + 1, kn, .cons w t r, h, ⟨h1, h2, h3, h4⟩ => ⟨h1, h2, h (w, t) (List.mem_cons_self ..) h3, h4.imp (fun z => z) fun z => fineF_mono' (fun m hm => h m (List.mem_cons_of_mem _ hm)) z⟩
theorem depth0 {t : Tr} (h : t.depth = 0) : t = .nil := by
  cases t with
  | nil => rfl
  | cons w t r =>
    exfalso
    have : (Tr.cons w t r).depth = 1 + (Tr.cons w t r).sdep := rfl
    omega
theorem fine_down : ∀ (m n : Nat) (t : Tr), Fine n t → t.depth ≤ m → Fine m t
  | 0, n, t, _, hd => depth0 (by omega)
  | m + 1, 0, t, h, _ => .inl h
  | m + 1, n + 1, t, h, hd => by
    rcases h with h | h
    · exact .inl h
    · exact .inr (fineF_mono' (fun y hy hf => fine_down m n y.2 hf (by have := Tr.depth_lt hy; omega)) h)
theorem fine_up {m n : Nat} {t : Tr} (h : Fine m t) (hm : m ≤ n) : Fine n t := fine_down n m t h (Nat.le_trans (fine_has m t h).1 hm)
def Kn (N : List Addr) (H H' : Hp) : Prop := ∀ b o, H b = some o → b ∉ N → H' b = some o
theorem Kn.refl {N : List Addr} (H : Hp) : Kn N H H := fun _ _ h _ => h
theorem Kn.trans {N : List Addr} {H H1 H2 : Hp} (a : Kn N H H1) (b : Kn N H1 H2) : Kn N H H2 := fun c o h n => b c o (a c o h n) n
theorem Kn.of {N : List Addr} {H H1 : Hp} (a : Same H H1) : Kn N H H1 := fun c o h _ => a c o h
theorem Kn.kp {N : List Addr} {st g l : Addr} {H H1 : Hp} (a : Kp st g l H H1) (h1 : st ∈ N) (h2 : g ∈ N) (h3 : l ∈ N) : Kn N H H1 := fun c o h n => a c o h (fun e => n (e ▸ h1)) (fun e => n (e ▸ h2)) (fun e => n (e ▸ h3))
theorem Kn.upd {N : List Addr} {H : Hp} {p : Addr} {o : HO} (h : p ∈ N) : Kn N H (upd H p o) := fun c x e n => by
  rw [upd_ne (fun z : c = p => n (by rw [z]; exact h))]
  exact e
/-- a def's new object may change -/
theorem Kn.mut {N : List Addr} {H H' : Hp} {p : Addr} {o : HO} (k : Kn N H H') (h : H p = none) : Kn N H (L2.upd H' p o) := fun c x e n => by
  rw [upd_ne (ne_of_none e h)]
  exact k c x e n
theorem Kp.kn {st g l : Addr} {H H1 : Hp} (a : Kn [st, g, l] H H1) : Kp st g l H H1 := fun c o h h1 h2 h3 => a c o h (by simp [h1, h2, h3])
/-- what is drawn with: the state, the room, the pool -/
structure Lt (H : Hp) (st g l rm pl : Addr) (r p : Nat) (po : List (V × Tr)) : Prop where
  S : StAt H st g l
  hr : H rm = some (.lst [.int (r : Nat), .int (p : Nat)])
  hp : H pl = some (.lst (po.map (·.1)))
  po : ∀ m ∈ po, TrAt H m.2 m.1 ∧ Fine 3 m.2
  n1 : rm ≠ st
  n2 : rm ≠ g
  n3 : rm ≠ l
  n4 : pl ≠ st
  n5 : pl ≠ g
  n6 : pl ≠ l
  n7 : rm ≠ pl
/-- tuples stand where what changes are lists -/
theorem tups_of {N : List Addr} {H H' : Hp} (k : Kn N H H') (hN : ∀ b ∈ N, ∃ xs, H b = some (.lst xs)) : ∀ c xs, H c = some (.tup xs) → H' c = some (.tup xs) := fun c xs e => k c _ e fun z => by
  obtain ⟨ys, h⟩ := hN c z
  rw [h] at e
  cases e
theorem Lt.lists {H : Hp} {st g l rm pl : Addr} {r p : Nat} {po : List (V × Tr)} (L : Lt H st g l rm pl r p po) : ∀ b ∈ [st, g, l, rm, pl], ∃ xs, H b = some (.lst xs) := fun b hb => by
  obtain ⟨⟨_, _, _, _, h1, h2, h3, _⟩, _⟩ := L.S
  simp only [List.mem_cons, List.not_mem_nil, or_false] at hb
  rcases hb with rfl | rfl | rfl | rfl | rfl
  · exact ⟨_, h1⟩
  · exact ⟨_, h2⟩
  · exact ⟨_, h3⟩
  · exact ⟨_, L.hr⟩
  · exact ⟨_, L.hp⟩
theorem Lt.same {H H' : Hp} {st g l rm pl : Addr} {r p : Nat} {po : List (V × Tr)} (L : Lt H st g l rm pl r p po) (s : Same H H') : Lt H' st g l rm pl r p po :=
  ⟨L.S.same s, s _ _ L.hr, s _ _ L.hp, fun m hm => ⟨(L.po m hm).1.same s, (L.po m hm).2⟩, L.n1, L.n2, L.n3, L.n4, L.n5, L.n6, L.n7⟩
theorem Lt.kp {H H' : Hp} {st g l rm pl : Addr} {r p : Nat} {po : List (V × Tr)} (L : Lt H st g l rm pl r p po) (S : StAt H' st g l) (k : Kp st g l H H') : Lt H' st g l rm pl r p po :=
  ⟨S, k _ _ L.hr L.n1 L.n2 L.n3, k _ _ L.hp L.n4 L.n5 L.n6, fun m hm => ⟨(L.po m hm).1.tups (tups_of (Kn.kp (N := [st, g, l, rm, pl]) k (by simp) (by simp) (by simp)) L.lists), (L.po m hm).2⟩, L.n1, L.n2, L.n3, L.n4, L.n5, L.n6, L.n7⟩
/-- the room changes -/
theorem Lt.room {H : Hp} {st g l rm pl : Addr} {r p r' p' : Nat} {po : List (V × Tr)} (L : Lt H st g l rm pl r p po) : Lt (upd H rm (.lst [.int (r' : Nat), .int (p' : Nat)])) st g l rm pl r' p' po :=
  ⟨L.S.upd L.n1 L.n2 L.n3, upd_same, by rw [upd_ne L.n7.symm]; exact L.hp, fun m hm => ⟨(L.po m hm).1.tups (tups_of (Kn.upd (N := [st, g, l, rm, pl]) (by simp)) L.lists), (L.po m hm).2⟩, L.n1, L.n2, L.n3, L.n4, L.n5, L.n6, L.n7⟩
/-- the pool grows -/
theorem Lt.pool {H : Hp} {st g l rm pl : Addr} {r p : Nat} {po : List (V × Tr)} (L : Lt H st g l rm pl r p po) {v : V} {t : Tr} (ht : TrAt H t v) (hf : Fine 3 t) : Lt (upd H pl (.lst (po.map (·.1) ++ [v]))) st g l rm pl r p (po ++ [(v, t)]) := by
  have tu := tups_of (Kn.upd (N := [st, g, l, rm, pl]) (o := .lst (po.map (·.1) ++ [v])) (show pl ∈ [st, g, l, rm, pl] by simp)) L.lists
  refine ⟨L.S.upd L.n4 L.n5 L.n6, by rw [upd_ne L.n7]; exact L.hr, by rw [upd_same, List.map_append]; rfl, fun m hm => ?_, L.n1, L.n2, L.n3, L.n4, L.n5, L.n6, L.n7⟩
  rcases List.mem_append.mp hm with hm | hm
  · exact ⟨(L.po m hm).1.tups tu, (L.po m hm).2⟩
  · have e : m = (v, t) := by simpa using hm
    rw [e]
    exact ⟨ht.tups tu, hf⟩
/-- an object of one's own changes -/
theorem Lt.mut {H : Hp} {st g l rm pl b : Addr} {r p : Nat} {po : List (V × Tr)} {xs : List V} {o : HO} (L : Lt H st g l rm pl r p po) (hb : H b = some (.lst xs)) (n : b ∉ [st, g, l, rm, pl]) : Lt (upd H b o) st g l rm pl r p po := by
  simp only [List.mem_cons, List.not_mem_nil, or_false, not_or] at n
  obtain ⟨n1, n2, n3, n4, n5⟩ := n
  have tu : ∀ c ys, H c = some (.tup ys) → (upd H b o) c = some (.tup ys) := fun c ys e => by
    rw [upd_ne (fun z => by rw [z, hb] at e; cases e)]
    exact e
  exact ⟨L.S.upd n1 n2 n3, by rw [upd_ne (Ne.symm n4)]; exact L.hr, by rw [upd_ne (Ne.symm n5)]; exact L.hp, fun m hm => ⟨(L.po m hm).1.tups tu, (L.po m hm).2⟩, L.n1, L.n2, L.n3, L.n4, L.n5, L.n6, L.n7⟩
theorem Lt.fresh {H : Hp} {st g l rm pl b : Addr} {r p : Nat} {po : List (V × Tr)} (L : Lt H st g l rm pl r p po) (hb : H b = none) : b ∉ [st, g, l, rm, pl] := fun z => by
  obtain ⟨xs, e⟩ := L.lists b z
  rw [hb] at e
  cases e
def sp_ltree (d : Nat) : Sp := fun vs H Q _ => ∃ (st g l rm pl : Addr) (f r p : Nat) (po : List (V × Tr)), vs = [.ref st, .int (f : Nat), .ref rm, .ref pl] ∧ f < d ∧ 1 ≤ f ∧ f ≤ 3 ∧ 1 ≤ r ∧ 1 ≤ p ∧ p ≤ 5 ∧ po.length + r ≤ 20 ∧ Lt H st g l rm pl r p po ∧
  ∀ t v H' r' p' po', Lt H' st g l rm pl r' p' po' → Kn [st, g, l, rm, pl] H H' → TrAt H' t v → Fine f t → t.isNil = false → r' + t.recs = r → p' + t.plains = p → po'.length + r' + 1 ≤ po.length + r → Q v H'
def sumR (l : List (Str × Tr)) : Nat := (l.map fun m => m.2.recs).sum
def sumP (l : List (Str × Tr)) : Nat := (l.map fun m => m.2.plains).sum
theorem recs_of {l : List (Str × Tr)} (h : l ≠ []) : (Tr.ofFields l).recs = 1 + sumR l ∧ (Tr.ofFields l).plains = sumP l ∧ (Tr.ofFields l).isNil = false := by
  cases l with
  | nil => exact absurd rfl h
  | cons m l =>
    have e1 := Tr.srec_eq (Tr.ofFields (m :: l))
    have e2 := Tr.spla_eq (Tr.ofFields (m :: l))
    rw [Tr.fields_of] at e1 e2
    exact ⟨congrArg (1 + ·) e1, e2, rfl⟩
theorem sum_snoc (l : List (Str × Tr)) (m : Str × Tr) : sumR (l ++ [m]) = sumR l + m.2.recs ∧ sumP (l ++ [m]) = sumP l + m.2.plains := by
  unfold sumR sumP
  simp
/-- what the loop keeps -/
structure LtI (H0 H : Hp) (st g l rm pl fl : Addr) (f r0 p0 po0 : Nat) (r p : Nat) (po : List (V × Tr)) (fs : List (Str × Tr)) (ps : List V) : Prop where
  lt : Lt H st g l rm pl r p po
  kn : Kn [st, g, l, rm, pl] H0 H
  hf : H fl = some (.lst ps)
  nf : fl ∉ [st, g, l, rm, pl]
  nw : H0 fl = none
  at_ : FsAt H (.ofFields fs) ps
  ok : ∀ m ∈ fs, Fine (f - 1) m.2 ∧ isWord m.1 = true
  nd : (fs.map (·.1)).Nodup
  sr : r + sumR fs + 1 = r0
  sp : p + sumP fs = p0
  sl : po.length + r + 1 ≤ po0 + r0
theorem LtI.same {H0 H H' : Hp} {st g l rm pl fl : Addr} {f r0 p0 po0 : Nat} {r p : Nat} {po : List (V × Tr)} {fs : List (Str × Tr)} {ps : List V} (I : LtI H0 H st g l rm pl fl f r0 p0 po0 r p po fs ps) (s : Same H H') : LtI H0 H' st g l rm pl fl f r0 p0 po0 r p po fs ps :=
  ⟨I.lt.same s, I.kn.trans (Kn.of s), s _ _ I.hf, I.nf, I.nw, I.at_.same s, I.ok, I.nd, I.sr, I.sp, I.sl⟩
theorem LtI.tups {H0 H : Hp} {st g l rm pl fl : Addr} {f r0 p0 po0 : Nat} {r p : Nat} {po : List (V × Tr)} {fs : List (Str × Tr)} {ps : List V} (I : LtI H0 H st g l rm pl fl f r0 p0 po0 r p po fs ps) {H' : Hp} (k : Kn [st, g, l, rm, pl] H H') : ∀ c xs, H c = some (.tup xs) → H' c = some (.tup xs) := tups_of k I.lt.lists
theorem LtI.kp {H0 H H' : Hp} {st g l rm pl fl : Addr} {f r0 p0 po0 : Nat} {r p : Nat} {po : List (V × Tr)} {fs : List (Str × Tr)} {ps : List V} (I : LtI H0 H st g l rm pl fl f r0 p0 po0 r p po fs ps) (S : StAt H' st g l) (k : Kp st g l H H') : LtI H0 H' st g l rm pl fl f r0 p0 po0 r p po fs ps := by
  have k' : Kn [st, g, l, rm, pl] H H' := Kn.kp k (by simp) (by simp) (by simp)
  exact ⟨I.lt.kp S k, I.kn.trans k', k' _ _ I.hf I.nf, I.nf, I.nw, I.at_.tups (I.tups k'), I.ok, I.nd, I.sr, I.sp, I.sl⟩
/-- the drawing goes on below -/
theorem LtI.go {H0 H H' : Hp} {st g l rm pl fl : Addr} {f r0 p0 po0 : Nat} {r p : Nat} {po : List (V × Tr)} {fs : List (Str × Tr)} {ps : List V} (I : LtI H0 H st g l rm pl fl f r0 p0 po0 r p po fs ps) {r' p' : Nat} {po' : List (V × Tr)} (L : Lt H' st g l rm pl r' p' po') (k : Kn [st, g, l, rm, pl] H H') : Kn [st, g, l, rm, pl] H0 H' ∧ H' fl = some (.lst ps) ∧ FsAt H' (.ofFields fs) ps :=
  ⟨I.kn.trans k, k _ _ I.hf I.nf, I.at_.tups (I.tups k)⟩
theorem fm_filter {po : List (V × Tr)} (c : V × Tr → Bool) : (po.filterMap fun m => if c m = true then some m.1 else none) = (po.filter c).map (·.1) := by
  induction po with
  | nil => rfl
  | cons m r ih =>
    rw [List.filterMap_cons, List.filter_cons]
    by_cases h : c m = true
    · rw [if_pos h, if_pos h, List.map_cons, ih]
    · rw [if_neg h, if_neg h, ih]
theorem at_map {po : List (V × Tr)} {j : Nat} {x : V} {m : V × Tr} (hx : (po.map (·.1))[j]? = some x) (hm : po[j]? = some m) : x = m.1 := by
  rw [List.getElem?_map, hm] at hx
  exact (Option.some.inj hx).symm
/-- an if whose test is known -/
theorem ifT {tt : TT} {a b : TS} {D : Ends} {σ : L2.St} {H : Hp} (ht : ∀ Q : Bool → Hp → Prop, Q true H → tt σ H Q) (h : a D σ H) : tIfS tt a b D σ H := ht _ (iteT h)
theorem ifF {tt : TT} {a b : TS} {D : Ends} {σ : L2.St} {H : Hp} (ht : ∀ Q : Bool → Hp → Prop, Q false H → tt σ H Q) (h : b D σ H) : tIfS tt a b D σ H := ht _ (iteF h)
theorem FsAt.len2 {H : Hp} {l : List (Str × Tr)} {ps : List V} (h : FsAt H (.ofFields l) ps) : ps.length = l.length := by rw [h.len, Tr.fields_of]
theorem no_ltree {P : Program} {w : World} {K : PySem.W.Frag} {mg : Str → Option Value} {base : Heap} {k : Nat} {f : Addr} {fd : FuncData} {x y z u : Str} : FnOk P w K mg base CX0 k f fd [x, y, z, u] (sp_ltree 0) :=
  ⟨fun vs H Q E h => by obtain ⟨_, _, _, _, _, _, _, _, _, rfl, _⟩ := h; rfl, fun A outer s H args us vs Q E _ _ _ _ h => by
    obtain ⟨_, _, _, _, _, _, _, _, _, _, h, _⟩ := h
    exact absurd h (Nat.not_lt_zero _)⟩
end Up
namespace Up
open PySem PySem.Spec PyProof.Rows L2 Ub Ur Ug Ue
theorem notStr_same {K : PySem.W.Frag} {N : List Addr} {H H' : Hp} {v : V} {d : PyData} (hd : DtV N H v d) (s : Same H H') (h : NotStr K H v) : NotStr K H' v := by
  cases hd.same s with
  | str z =>
    exfalso
    obtain ⟨T, h1, h2⟩ := h
    cases h1 with
    | base h =>
      cases h
      exact nomatch (show some true = some false from h2)
  | non => exact ⟨_, .base .non, by decide +kernel⟩
  | bl b => exact ⟨_, .base (.bl b), by decide +kernel⟩
  | int i => exact ⟨_, .base (.int i), by decide +kernel⟩
  | lst h1 => exact ⟨_, .base (.lst h1), by decide +kernel⟩
  | tup h1 => exact ⟨_, .base (.tup h1), by decide +kernel⟩
def toldV : Bool → List V
  | true => [.str "made", .bl true]
  | false => [.str "refused", .bl true, .bl true]
def sp_told (K : PySem.W.Frag) : Sp := fun vs H Q _ => ∃ v, vs = [v] ∧ ((∃ z : Str, v = .str z ∧ Asc z ∧ z.length ≤ 6200 ∧ ∀ p H', Same H H' → H p = none → H' p = some (.lst (toldV (shapeOf z).isSome)) → Q (.ref p) H') ∨
  (NotStr K H v ∧ ∃ d, DtV [] H v d ∧ rpOk d = true ∧ ∀ p H', Same H H' → H p = none → H' p = some (.lst (toldV false)) → Q (.ref p) H'))
def toldD : Bool → PyData
  | true => .list [.str "made", .bool true]
  | false => .list [.str "refused", .bool true, .bool true]
theorem dp_told {K : PySem.W.Frag} {H : Hp} {p : Addr} : ∀ {b : Bool}, H p = some (.lst (toldV b)) → Dp K H (.ref p) (toldD b)
  | true, h => .lst (.inl (.inl h)) (.cons (.str _) (.cons (.bl _) .nil))
  | false, h => .lst (.inl (.inl h)) (.cons (.str _) (.cons (.bl _) (.cons (.bl _) .nil)))
theorem told_ok (b : Bool) : SeqAt.shaped (toldD b) = true ∧ PyData.eqv (toldD b) (toldD b) = true := by cases b <;> exact ⟨by decide +kernel, by decide +kernel⟩
/-- a list of texts -/
def Txs (H : Hp) (p : Addr) (n : Nat) : Prop := ∃ ws : List Str, H p = some (.lst (ws.map V.str)) ∧ ws.length = n ∧ ∀ z ∈ ws, z.length ≤ 6200 ∧ Asc z
theorem odd_none : ∀ d ∈ odds, (match d with
  | .str z => (shapeOf z).isNone && (ascB z && decide (z.length ≤ 6200))
  | _ => true) = true := List.all_eq_true.mp (by decide +kernel)
theorem told_odd {K : PySem.W.Frag} {N : List Addr} {H : Hp} {v : V} {d : PyData} {Q : VK} {E : XK} (hd : d ∈ odds) (hv : DtV N H v d) (q : ∀ p H', Same H H' → H p = none → H' p = some (.lst (toldV false)) → Q (.ref p) H') : sp_told K [v] H Q E := by
  refine ⟨v, rfl, ?_⟩
  have rp := odds_rp d hd
  have h0 := hv.free
  cases hv with
  | str z =>
    have := odd_none _ hd
    simp only [Bool.and_eq_true, decide_eq_true_eq, Option.isNone_iff_eq_none] at this
    exact .inl ⟨z, rfl, asc_of this.2.1, this.2.2, by rw [this.1]; exact q⟩
  | non => exact .inr ⟨⟨_, .base .non, by decide +kernel⟩, _, h0, rp, q⟩
  | bl b => exact .inr ⟨⟨_, .base (.bl b), by decide +kernel⟩, _, h0, rp, q⟩
  | int i => exact .inr ⟨⟨_, .base (.int i), by decide +kernel⟩, _, h0, rp, q⟩
  | lst h1 => exact .inr ⟨⟨_, .base (.lst h1), by decide +kernel⟩, _, h0, rp, q⟩
  | tup h1 => exact .inr ⟨⟨_, .base (.tup h1), by decide +kernel⟩, _, h0, rp, q⟩
end Up

namespace Up
open PySem PySem.Spec PyProof.Rows L2 Ub Ur Ug Ue
/-! ### data as it is asked -/
theorem _root_.Ur.DtVs.get {N : List Addr} {H : Hp} : ∀ {xs : List V} {ds : List PyData} {i : Nat} {x : V}, DtVs N H xs ds → xs[i]? = some x → ∃ d, ds[i]? = some d ∧ DtV N H x d
  | _, _, _, _, .nil, e => by simp at e
  | _, _, 0, x, .cons h _, e => by
    have e := Option.some.inj e
    exact ⟨_, rfl, by rw [← e]; exact h⟩
  | _, _, i + 1, x, .cons _ r, e => Ur.DtVs.get (i := i) r e
theorem _root_.Ur.DtVs.same {N : List Addr} {H H' : Hp} {xs : List V} {ds : List PyData} (h : DtVs N H xs ds) (s : Same H H') : DtVs N H' xs ds := h.keep fun b o e _ => s b o e
def isTup : PyData → Bool
  | .tuple _ => true
  | _ => false
theorem _root_.Ur.DtV.tyT {K : PySem.W.Frag} {N : List Addr} {H : Hp} {v : V} {d : PyData} (h : DtV N H v d) : ∃ T : String, TyX K H v (.type T) ∧ kitB T "tuple" = some (isTup d) := by
  cases h with
  | str z => exact ⟨_, .base (.str z), (by decide +kernel : kitB "str" "tuple" = some false)⟩
  | non => exact ⟨_, .base .non, by decide +kernel⟩
  | bl b => exact ⟨_, .base (.bl b), (by decide +kernel : kitB "bool" "tuple" = some false)⟩
  | int i => exact ⟨_, .base (.int i), (by decide +kernel : kitB "int" "tuple" = some false)⟩
  | lst h1 => exact ⟨_, .base (.lst h1), (by decide +kernel : kitB "list" "tuple" = some false)⟩
  | tup h1 => exact ⟨_, .base (.tup h1), (by decide +kernel : kitB "tuple" "tuple" = some true)⟩
theorem _root_.Ur.DtV.strOr {K : PySem.W.Frag} {N : List Addr} {H : Hp} {v : V} {d : PyData} (h : DtV N H v d) : (∃ z : Str, d = .str z ∧ v = .str z) ∨ ((∀ z, d ≠ .str z) ∧ NotStr K H v) := by
  cases h with
  | str z => exact .inl ⟨z, rfl, rfl⟩
  | non => exact .inr ⟨(fun z e => nomatch e), _, .base .non, by decide +kernel⟩
  | bl b => exact .inr ⟨(fun z e => nomatch e), _, .base (.bl b), by decide +kernel⟩
  | int i => exact .inr ⟨(fun z e => nomatch e), _, .base (.int i), by decide +kernel⟩
  | lst h1 => exact .inr ⟨(fun z e => nomatch e), _, .base (.lst h1), by decide +kernel⟩
  | tup h1 => exact .inr ⟨(fun z e => nomatch e), _, .base (.tup h1), by decide +kernel⟩
theorem _root_.Ur.DtV.tupOr {N : List Addr} {H : Hp} {v : V} {d : PyData} (h : DtV N H v d) : (∃ p xs ds, d = .tuple ds ∧ v = .ref p ∧ H p = some (.tup xs) ∧ DtVs N H xs ds) ∨ isTup d = false := by
  cases h with
  | tup h1 _ h2 => exact .inl ⟨_, _, _, rfl, rfl, h1, h2⟩
  | str z => exact .inr rfl
  | non => exact .inr rfl
  | bl b => exact .inr rfl
  | int i => exact .inr rfl
  | lst h1 => exact .inr rfl
/-! ### parameters -/
def pair1 (ws : List Str) (d : PyData) : Option (Str × Tr) := match d with
  | .tuple [.str w, .str z] => (match shapeOf z with
    | some t => if isWord w = true ∧ w ∉ ws then some (w, t) else none
    | none => none)
  | _ => none
def parP : List PyData → List Str → List Nat → Bool
  | [], _, ns => decide (ns.sum ≤ 3)
  | d :: r, ws, ns => match pair1 ws d with
    | some (w, t) => parP r (ws ++ [w]) (ns ++ [t.plains])
    | none => false
def areP : PyData → Bool
  | .tuple ps => decide (ps.length ≤ 3) && parP ps [] []
  | _ => false
theorem pair1_tup {ws : List Str} {d : PyData} (h : isTup d = false) : pair1 ws d = none := by
  cases d <;> first | rfl | cases h
theorem pair1_len {ws : List Str} {qs : List PyData} (h : qs.length ≠ 2) : pair1 ws (.tuple qs) = none := by
  unfold pair1
  split
  · rename_i w z e
    injection e with e
    rw [e] at h
    exact absurd rfl h
  · rfl
theorem pair1_snd {ws : List Str} {a b : PyData} (h : ∀ z, b = .str z → shapeOf z = none) : pair1 ws (.tuple [a, b]) = none := by
  unfold pair1
  split
  · rename_i w z e
    injection e with e
    injection e with _ e
    injection e with e _
    rw [h z e]
  · rfl
theorem pair1_fst {ws : List Str} {a b : PyData} (h : ∀ w, a = .str w → ¬ (isWord w = true ∧ w ∉ ws)) : pair1 ws (.tuple [a, b]) = none := by
  unfold pair1
  split
  · rename_i w z e
    injection e with e
    injection e with e _
    split
    · exact if_neg (h w e)
    · rfl
  · rfl
theorem pair1_ok {ws : List Str} {w z : Str} {t : Tr} (h : shapeOf z = some t) (h1 : isWord w = true) (h2 : w ∉ ws) : pair1 ws (.tuple [.str w, .str z]) = some (w, t) := by
  unfold pair1
  dsimp only
  rw [h]
  exact if_pos ⟨h1, h2⟩
theorem parP_none {ws : List Str} {ns : List Nat} {d : PyData} {r : List PyData} (h : pair1 ws d = none) : parP (d :: r) ws ns = false := by
  show (match pair1 ws d with | some (w, t) => parP r (ws ++ [w]) (ns ++ [t.plains]) | none => false) = false
  rw [h]
theorem parP_some {ws : List Str} {ns : List Nat} {d : PyData} {r : List PyData} {w : Str} {t : Tr} (h : pair1 ws d = some (w, t)) : parP (d :: r) ws ns = parP r (ws ++ [w]) (ns ++ [t.plains]) := by
  show (match pair1 ws d with | some (w, t) => parP r (ws ++ [w]) (ns ++ [t.plains]) | none => false) = _
  rw [h]
/-- its texts are short -/
def Sm (d : PyData) : Prop := ∀ ps, d = .tuple ps → ps.length ≤ 1000 ∧ ∀ p ∈ ps, ∀ qs, p = .tuple qs → qs.length ≤ 1000 ∧ ∀ z, PyData.str z ∈ qs → z.length ≤ 10000
def sp_arep : Sp := fun vs H Q _ => ∃ v d, vs = [v] ∧ DtV [] H v d ∧ Sm d ∧ ∀ H', Same H H' → Q (.bl (areP d)) H'
theorem areP_no {d : PyData} (h : isTup d = false) : areP d = false := by
  cases d <;> first | rfl | cases h
end Up
namespace Up
open PySem PySem.Spec PyProof.Rows L2 Ub Ur Ug Ue
/-! ### how long data are when shown -/
structure RB (k n : Nat) (d : PyData) : Prop where
  s : d.showable = true
  h : d.hasDict = false
  dp : d.depth ≤ k
  l : d.shown.length ≤ n
theorem RB.mono {k n k' n' : Nat} {d : PyData} (r : RB k n d) (hk : k ≤ k') (hn : n ≤ n') : RB k' n' d := ⟨r.s, r.h, Nat.le_trans r.dp hk, Nat.le_trans r.l hn⟩
theorem RB.rp {k n : Nat} {d : PyData} (r : RB k n d) (hk : k ≤ 40) (hn : n ≤ 100000) : rpOk d = true := by
  have h1 := r.s
  have h2 := r.h
  have h3 := Nat.le_trans r.dp hk
  have h4 := Nat.le_trans r.l hn
  unfold rpOk
  rw [h1, h2, decide_eq_true h3]
  cases d <;> simp [h4]
theorem rb_str {z : Str} {m : Nat} (h : Asc z) (hl : z.length ≤ m) : RB 0 (10 * m + 2) (.str z) := by
  have hz := PySem.StrLaws.reprText_len z (fun c hc => Nat.lt_trans (h c hc) (by decide))
  exact ⟨rfl, rfl, Nat.le_refl _, by show (reprText z).length ≤ _; omega⟩
theorem all_showable : ∀ {ds : List PyData}, (∀ d ∈ ds, d.showable = true) → PyData.showableAll ds = true
  | [], _ => rfl
  | d :: r, h => by
    show (d.showable && PyData.showableAll r) = true
    rw [h d List.mem_cons_self, all_showable fun x hx => h x (List.mem_cons_of_mem _ hx)]
    rfl
theorem all_noDict : ∀ {ds : List PyData}, (∀ d ∈ ds, d.hasDict = false) → PyData.hasDictAll ds = false
  | [], _ => rfl
  | d :: r, h => by
    show (d.hasDict || PyData.hasDictAll r) = false
    rw [h d List.mem_cons_self, all_noDict fun x hx => h x (List.mem_cons_of_mem _ hx)]
    rfl
theorem all_depth {k : Nat} : ∀ {ds : List PyData}, (∀ d ∈ ds, d.depth ≤ k) → PyData.depthAll ds ≤ k
  | [], _ => Nat.zero_le _
  | d :: r, h => by
    show max d.depth (PyData.depthAll r) ≤ k
    have h1 := h d List.mem_cons_self
    have h2 := all_depth (fun x hx => h x (List.mem_cons_of_mem _ hx)) (ds := r)
    omega
theorem shownAll_len : ∀ ds : List PyData, (PyData.shownAll ds).length = ds.length
  | [] => rfl
  | d :: r => congrArg Nat.succ (shownAll_len r)
theorem shownAll_sum {n : Nat} : ∀ {ds : List PyData}, (∀ d ∈ ds, d.shown.length ≤ n) → ((PyData.shownAll ds).map (·.length)).sum ≤ ds.length * n
  | [], _ => Nat.zero_le _
  | d :: r, h => by
    show (d.shown :: PyData.shownAll r |>.map (·.length)).sum ≤ (r.length + 1) * n
    have h1 := h d List.mem_cons_self
    have h2 := shownAll_sum (fun x hx => h x (List.mem_cons_of_mem _ hx)) (ds := r)
    rw [List.map_cons, List.sum_cons, Nat.succ_mul]
    omega
theorem textFrom_le : ∀ (ts : List Str) (k : Nat) (acc : Str), (textFrom k acc ts).length ≤ acc.length + (ts.map (·.length)).sum + 2 * ts.length
  | [], _, _ => by show _ ≤ _; simp [textFrom]
  | t :: r, k, acc => by
    have ih := textFrom_le r (k + 1) (acc ++ (if k > 0 then ", " else "" : String) ++ t)
    have e2 : ((if k > 0 then ", " else "" : String) : Str).length ≤ 2 := by split <;> decide +kernel
    rw [len_app, len_app] at ih
    show (textFrom (k + 1) (acc ++ (if k > 0 then ", " else "" : String) ++ t) r).length ≤ _
    rw [List.map_cons, List.sum_cons, List.length_cons]
    omega
theorem rb_tup {k n m : Nat} {ds : List PyData} (h : ∀ d ∈ ds, RB k n d) (hl : ds.length ≤ m) : RB (k + 1) (3 + m * (n + 2)) (.tuple ds) := by
  refine ⟨all_showable fun d hd => (h d hd).s, all_noDict fun d hd => (h d hd).h, Nat.succ_le_succ (all_depth fun d hd => (h d hd).dp), ?_⟩
  have h1 := shownAll_sum (n := n) fun d hd => (h d hd).l
  have h2 := Tr.join_len ", " (PyData.shownAll ds)
  have e3 : ((", " : Str)).length = 2 := by decide +kernel
  rw [e3, shownAll_len] at h2
  show (("(" : Str) ++ Str.join ", " (PyData.shownAll ds) ++ (if (PyData.shownAll ds).length == 1 then ",)" else ")" : String)).length ≤ _
  have e1 : (("(" : Str)).length = 1 := by decide +kernel
  have e2 : ((if (PyData.shownAll ds).length == 1 then ",)" else ")" : String) : Str).length ≤ 2 := by split <;> decide +kernel
  rw [len_app, len_app, e1]
  have h3 : ds.length * (n + 2) ≤ m * (n + 2) := Nat.mul_le_mul_right _ hl
  have h4 : ds.length * (n + 2) = ds.length * n + ds.length * 2 := Nat.mul_add _ _ _

  omega
theorem rb_lst {k n m : Nat} {ds : List PyData} (h : ∀ d ∈ ds, RB k n d) (hl : ds.length ≤ m) : RB (k + 1) (3 + m * (n + 2)) (.list ds) := by
  refine ⟨all_showable fun d hd => (h d hd).s, all_noDict fun d hd => (h d hd).h, Nat.succ_le_succ (all_depth fun d hd => (h d hd).dp), ?_⟩
  have h1 := shownAll_sum (n := n) fun d hd => (h d hd).l
  have h2 := textFrom_le (PyData.shownAll ds) 0 "["
  rw [shownAll_len] at h2
  show (textFrom 0 "[" (PyData.shownAll ds) ++ ("]" : Str)).length ≤ _
  have e1 : (("]" : Str)).length = 1 := by decide +kernel
  have e2 : (("[" : Str)).length = 1 := by decide +kernel
  rw [len_app, e1]
  rw [e2] at h2
  have h3 : ds.length * (n + 2) ≤ m * (n + 2) := Nat.mul_le_mul_right _ hl
  have h4 : ds.length * (n + 2) = ds.length * n + ds.length * 2 := Nat.mul_add _ _ _
  omega
theorem odds_rb : ∀ d ∈ odds, RB 3 80 d := fun d hd => by
  have h := List.all_eq_true.mp (show odds.all (fun d => d.showable && (!d.hasDict && (decide (d.depth ≤ 3) && decide (d.shown.length ≤ 80)))) = true by decide +kernel) d hd
  simp only [Bool.and_eq_true, decide_eq_true_eq, Bool.not_eq_true'] at h
  exact ⟨h.1, h.2.1, h.2.2.1, h.2.2.2⟩
end Up
namespace Up
open PySem PySem.Spec PyProof.Rows L2 Ub Ur Ug Ue
/-- a drawn record's tree of at least so many fields -/
def sp_mshape : Sp := fun vs H Q _ => ∃ (st g l : Addr) (le : Nat), vs = [.ref st, .int (le : Nat)] ∧ 1 ≤ le ∧ le ≤ 2 ∧ StAt H st g l ∧ ∀ t v H', good t → t.isNil = false → le ≤ t.fields.length → TrAt H' t v → StAt H' st g l → Kp st g l H H' → Q v H'
end Up
namespace Up
open PySem PySem.Spec PyProof.Rows L2 Ub Ur Ug Ue
/-- objects made since are not told of -/
theorem Kn.drop {st g l rm pl : Addr} {H H1 H2 : Hp} (k : Kp st g l H H1) (k2 : Kn [st, g, l, rm, pl] H1 H2) (h1 : H rm = none) (h2 : H pl = none) : Kp st g l H H2 := fun b o e b1 b2 b3 => k2 b o (k b o e b1 b2 b3) (by
  simp only [List.mem_cons, List.not_mem_nil, or_false, not_or]
  exact ⟨b1, b2, b3, ne_of_none e h1, ne_of_none e h2⟩)
end Up

namespace Up
open PySem PySem.Spec PyProof.Rows L2 Ub Ur Ug Ue
/-! ### which parameters are good -/
theorem parP_bad {x : PyData} : ∀ (pre post : List PyData) (ws : List Str) (ns : List Nat), (∀ ws', (∀ w ∈ ws, w ∈ ws') → pair1 ws' x = none) → parP (pre ++ x :: post) ws ns = false
  | [], post, ws, ns, h => by
    show (match pair1 ws x with | some (w, t) => parP post (ws ++ [w]) (ns ++ [t.plains]) | none => false) = false
    rw [h ws fun _ z => z]
  | d :: pre, post, ws, ns, h => by
    show (match pair1 ws d with | some (w, t) => parP (pre ++ x :: post) (ws ++ [w]) (ns ++ [t.plains]) | none => false) = false
    cases pair1 ws d with
    | none => rfl
    | some p => exact parP_bad pre post _ _ fun ws' hw => h ws' fun w hw' => hw w (List.mem_append_left _ hw')
def pairD (p : Str × Str) : PyData := .tuple [.str p.1, .str p.2]
theorem pair1_in {p : Str × Str} {ws : List Str} (h : p.1 ∈ ws) : pair1 ws (pairD p) = none := by
  unfold pairD pair1
  dsimp only
  cases shapeOf p.2 with
  | none => rfl
  | some t => exact if_neg fun z => z.2 h
theorem parP_dup {p : Str × Str} {l : List PyData} {ws : List Str} {ns : List Nat} (h : pairD p ∈ l) : parP (l ++ [pairD p]) ws ns = false := by
  induction l generalizing ws ns with
  | nil => exact nomatch h
  | cons d r ih =>
    show (match pair1 ws d with | some (w, t) => parP (r ++ [pairD p]) (ws ++ [w]) (ns ++ [t.plains]) | none => false) = false
    rcases List.mem_cons.mp h with h | h
    · cases e : pair1 ws d with
      | none => rfl
      | some q =>
        obtain ⟨w, t⟩ := q
        have ew : w = p.1 := by
          rw [← h] at e
          unfold pairD pair1 at e
          dsimp only at e
          split at e
          · split at e
            · exact (Prod.mk.inj (Option.some.inj e)).1.symm
            · cases e
          · cases e
        refine parP_bad r [] _ _ fun ws' hw => pair1_in (hw _ ?_)
        rw [ew]
        simp
    · cases pair1 ws d with
      | none => rfl
      | some q => exact ih h
def plT (z : Str) : Nat := match shapeOf z with
  | some t => t.plains
  | none => 0
theorem parP_good : ∀ (ps : List (Str × Str)) (ws : List Str) (ns : List Nat), (∀ p ∈ ps, isWord p.1 = true ∧ (shapeOf p.2).isSome = true ∧ p.1 ∉ ws) → (ps.map (·.1)).Nodup → parP (ps.map pairD) ws ns = decide (ns.sum + (ps.map fun p => plT p.2).sum ≤ 3)
  | [], ws, ns, _, _ => by
    show decide (ns.sum ≤ 3) = decide (ns.sum + 0 ≤ 3)
    rfl
  | p :: ps, ws, ns, h, hn => by
    obtain ⟨h1, h2, h3⟩ := h p List.mem_cons_self
    obtain ⟨t, ht⟩ := Option.isSome_iff_exists.mp h2
    have e : pair1 ws (pairD p) = some (p.1, t) := by
      unfold pairD pair1
      dsimp only
      rw [ht]
      exact if_pos ⟨h1, h3⟩
    rw [List.map_cons, List.nodup_cons] at hn
    show (match pair1 ws (pairD p) with | some (w, t) => parP (ps.map pairD) (ws ++ [w]) (ns ++ [t.plains]) | none => false) = _
    rw [e]
    dsimp only
    rw [parP_good ps _ _ (fun q hq => ⟨(h q (List.mem_cons_of_mem _ hq)).1, (h q (List.mem_cons_of_mem _ hq)).2.1, fun z => ?_⟩) hn.2]
    · have et : plT p.2 = t.plains := by unfold plT; rw [ht]
      rw [List.map_cons, List.sum_cons, et, List.sum_append, List.sum_cons, List.sum_nil]
      congr 1
      apply propext
      omega
    · rcases List.mem_append.mp z with z | z
      · exact (h q (List.mem_cons_of_mem _ hq)).2.2 z
      · have : q.1 = p.1 := by simpa using z
        exact hn.1 (List.mem_map.mpr ⟨q, hq, this⟩)
def okTexts : List Str := [".", "{a: .}", "{a: ., b: .}", "{c: {d: .}}"]
/-- parameters that are good: pairs of a word and a text -/
structure GoodP (ps : List (Str × Str)) : Prop where
  ok : ∀ p ∈ ps, isWord p.1 = true ∧ p.2 ∈ okTexts
  nd : (ps.map (·.1)).Nodup
  len : ps.length ≤ 3
  sum : (ps.map fun p => plT p.2).sum ≤ 3
theorem okTexts_some : ∀ z ∈ okTexts, (shapeOf z).isSome = true ∧ isWord z = false ∧ ascB z = true ∧ z.length ≤ 12 ∧ shapeOf (z ++ " ") = none := by
  intro z hz
  have h := List.all_eq_true.mp (show okTexts.all (fun z => (shapeOf z).isSome && (!isWord z && (ascB z && (decide (z.length ≤ 12) && (shapeOf (z ++ " ")).isNone)))) = true by decide +kernel) z hz
  simp only [Bool.and_eq_true, decide_eq_true_eq, Bool.not_eq_true', Option.isNone_iff_eq_none] at h
  exact ⟨h.1, h.2.1, h.2.2.1, h.2.2.2.1, h.2.2.2.2⟩
theorem GoodP.are {ps : List (Str × Str)} (g : GoodP ps) : areP (.tuple (ps.map pairD)) = true := by
  show (decide ((ps.map pairD).length ≤ 3) && parP (ps.map pairD) [] []) = true
  rw [parP_good ps [] [] (fun p hp => ⟨(g.ok p hp).1, (okTexts_some _ (g.ok p hp).2).1, by simp⟩) g.nd, List.length_map]
  have h1 := g.len
  have h2 := g.sum
  simp [h1, h2]
def sp_readrow9 : Sp := fun vs H Q _ => ∃ sh pv r, vs = [sh, pv, r] ∧ (r = .non ∨ r = .str "no row") ∧ ∀ H', Same H H' → Q .non H'
def row9 (r : V) : Prop := r = .str "then" ∨ r = .str "no row" ∨ r = .non
def sp_fits9 : Sp := fun vs H Q _ => ∃ sh pv rs r, vs = [sh, pv, .ref rs, r] ∧ H rs = some (.tup []) ∧ row9 r ∧ ∀ H', Same H H' → Q (.bl (decide (r = .str "then"))) H'
def sp_split9 : Sp := fun vs H Q _ => ∃ rs, vs = [.ref rs] ∧ H rs = some (.tup [.str "then"]) ∧ ∀ p a b H', Same H H' → H' p = some (.tup [.ref a, .ref b]) → H' a = some (.tup []) → H' b = some (.tup []) → Q (.ref p) H'
/-- Update.__init__ with one row of those: the rows' tuple behind the other arguments -/
def sp_upd9 (C BP BR : Addr) : Sp := fun vs H Q E => ∃ x sh pvv rs dx r d, vs = [.ref x, sh, pvv, .ref rs] ∧ H x = some (.ins C dx []) ∧ H rs = some (.tup [r]) ∧ row9 r ∧ DtV [] H pvv d ∧ Sm d ∧
  (areP d = false → ∀ e H', Same H H' → H e = none → H' e = some (.xd [("parameters", pvv)]) → E (.ref BP) (some e) H') ∧
  (areP d = true → r ≠ .str "then" → ∀ e H', Same H H' → H e = none → H' e = some (.xd [("at", .int 0)]) → E (.ref BR) (some e) H') ∧
  (areP d = true → r = .str "then" → ∀ H' w1 w2 w3, (∀ b o, H b = some o → b ≠ x → H' b = some o) → H' x = some (.ins C dx [("shape", sh), ("parameters", pvv), ("rows", w1), ("kinds", w2), ("writings", w3)]) → Q .non H')
theorem pair1_out {ws : List Str} {d : PyData} {w : Str} {t : Tr} (h : pair1 ws d = some (w, t)) : ∃ z, d = .tuple [.str w, .str z] ∧ shapeOf z = some t := by
  unfold pair1 at h
  split at h
  · rename_i w' z
    split at h
    · rename_i t' e
      split at h
      · have e2 := Option.some.inj h
        injection e2 with e3 e4
        subst e3 e4
        exact ⟨z, rfl, e⟩
      · cases h
    · cases h
  · cases h
theorem parP_all : ∀ {ds : List PyData} {ws : List Str} {ns : List Nat}, parP ds ws ns = true → ∀ d ∈ ds, ∃ w z t, d = .tuple [.str w, .str z] ∧ shapeOf z = some t
  | [], _, _, _, d, hd => nomatch hd
  | d0 :: r, ws, ns, h, d, hd => by
    cases e : pair1 ws d0 with
    | none => rw [parP_none e] at h; cases h
    | some p =>
      obtain ⟨w, t⟩ := p
      rw [parP_some e] at h
      obtain ⟨z, e1, e2⟩ := pair1_out e
      rcases List.mem_cons.mp hd with hd | hd
      · exact ⟨w, z, t, by rw [hd]; exact e1, e2⟩
      · exact parP_all h d hd
theorem areP_tup {d : PyData} (h : areP d = true) : ∃ ds, d = .tuple ds ∧ ds.length ≤ 3 ∧ parP ds [] [] = true := by
  cases d with
  | tuple ds =>
    have h : (decide (ds.length ≤ 3) && parP ds [] []) = true := h
    rw [Bool.and_eq_true, decide_eq_true_eq] at h
    exact ⟨ds, rfl, h.1, h.2⟩
  | _ => cases h
theorem cut0 (r : V) : cutV [r] none (some ((0 : Nat) : Int)) = [] := rfl
mutual
theorem _root_.Ur.DtV.dp {K : PySem.W.Frag} {N : List Addr} {H : Hp} : ∀ {v : V} {d : PyData}, DtV N H v d → Dp K H v d
  | _, _, .non => .non
  | _, _, .bl b => .bl b
  | _, _, .int i => .int i
  | _, _, .str z => .str z
  | _, _, .lst h _ r => .lst (.inl (.inl h)) (Ur.DtVs.dp r)
  | _, _, .tup h _ r => .tup (.inl (.inl h)) (Ur.DtVs.dp r)
theorem _root_.Ur.DtVs.dp {K : PySem.W.Frag} {N : List Addr} {H : Hp} : ∀ {xs : List V} {ds : List PyData}, DtVs N H xs ds → DpAll K H xs ds
  | _, _, .nil => .nil
  | _, _, .cons h r => .cons (Ur.DtV.dp h) (Ur.DtVs.dp r)
end
def told9 : Bool → Bool → List V
  | false, _ => [.str "parameters", .bl true]
  | true, true => [.str "made", .bl true]
  | true, false => [.str "row", .bl true]
def told9D : Bool → Bool → PyData
  | false, _ => .list [.str "parameters", .bool true]
  | true, true => .list [.str "made", .bool true]
  | true, false => .list [.str "row", .bool true]
theorem dp_told9 {K : PySem.W.Frag} {H : Hp} {p : Addr} : ∀ {a b : Bool}, H p = some (.lst (told9 a b)) → Dp K H (.ref p) (told9D a b)
  | false, _, h => .lst (.inl (.inl h)) (.cons (.str _) (.cons (.bl _) .nil))
  | true, true, h => .lst (.inl (.inl h)) (.cons (.str _) (.cons (.bl _) .nil))
  | true, false, h => .lst (.inl (.inl h)) (.cons (.str _) (.cons (.bl _) .nil))
theorem told9_ok (a b : Bool) : SeqAt.shaped (told9D a b) = true ∧ PyData.eqv (told9D a b) (told9D a b) = true := by cases a <;> cases b <;> exact ⟨by decide +kernel, by decide +kernel⟩
def sp_told9 : Sp := fun vs H Q _ => ∃ sh pvv r d, vs = [sh, pvv, r] ∧ row9 r ∧ DtV [] H pvv d ∧ Sm d ∧ rpOk d = true ∧ (areP d = true → SeqAt.shaped d = true ∧ PyData.eqv d d = true) ∧
  ∀ p H', Same H H' → H p = none → H' p = some (.lst (told9 (areP d) (decide (r = .str "then")))) → Q (.ref p) H'
end Up

namespace Ve
open PySem PySem.Spec PyProof.Rows L2 Ub Ur Ug Ue Up Uo
/-- what is told of a path: the tree below, or none -/
def dueD : Option Tr → PyData
  | none => .tuple [.str "refused", .list [.bool true, .bool true]]
  | some b => .tuple [.str "shape", .str b.text, .list ((pks b).map PyData.str)]
/-- y asked of the tree t: o is what stands there -/
def Asks (K : PySem.W.Frag) (H : Hp) (t : Tr) (y : V) (o : Option Tr) : Prop := (∃ m ∈ paths t, y = .str m.1 ∧ o = some m.2) ∨ (NoP K H t y ∧ o = none)
def sp_below (K : PySem.W.Frag) (C : Addr) : Sp := fun vs H Q _ => ∃ x g Z y o d, vs = [.ref x, y] ∧ ShG Z C H x g ∧ good g.tr ∧ Asks K H g.tr y o ∧ DtV [] H y d ∧ rpOk d = true ∧ ∀ p H', Same H H' → DtV [] H' (.ref p) (dueD o) → Q (.ref p) H'
def sp_due (K : PySem.W.Frag) : Sp := fun vs H Q _ => ∃ a ps t y o d, vs = [.ref a, y] ∧ H a = some (.lst ps) ∧ FsAt H (.ofFields (paths t)) ps ∧ good t ∧ Asks K H t y o ∧ DtV [] H y d ∧ SeqAt.shaped d = true ∧ ∀ p H', Same H H' → DtV [] H' (.ref p) (dueD o) → Q (.ref p) H'
theorem dtvs_str {N : List Addr} {H : Hp} : ∀ (l : List Str), DtVs N H (l.map V.str) (l.map PyData.str)
  | [] => .nil
  | z :: l => .cons (.str z) (dtvs_str l)
/-- the values of such a list -/
theorem FsAt_vals {H : Hp} : ∀ {L : List (Str × Tr)} {ps : List V}, FsAt H (.ofFields L) ps → ∃ ms : List (Str × Tr × V), ms.map (fun m => (m.1, m.2.1)) = L ∧ ms.length = ps.length ∧ ∀ (j : Nat) (m : Str × Tr × V), ms[j]? = some m → ∃ p : Addr, ps[j]? = some (V.ref p) ∧ H p = some (.tup [.str m.1, m.2.2]) ∧ TrAt H m.2.1 m.2.2
  | [], ps, h => by
    have e : ps = [] := h
    subst e
    exact ⟨[], rfl, rfl, fun j m hm => by simp at hm⟩
  | (w, t) :: L, ps, h => by
    obtain ⟨p, q, qs, rfl, h2, h3, h4⟩ := h
    obtain ⟨ms, e, l, k⟩ := FsAt_vals (L := L) h4
    refine ⟨(w, t, q) :: ms, by rw [List.map_cons, e], by rw [List.length_cons, List.length_cons, l], fun j m hm => ?_⟩
    cases j with
    | zero =>
      rw [List.getElem?_cons_zero] at hm ⊢
      cases hm
      exact ⟨p, rfl, h2, h3⟩
    | succ j =>
      rw [List.getElem?_cons_succ] at hm ⊢
      exact k j m hm
theorem fm_one {c : Str × Tr × V → Bool} : ∀ {ms : List (Str × Tr × V)} {m0 : Str × Tr × V}, (ms.map (·.1)).Nodup → m0 ∈ ms → (∀ m, c m = (m.1 == m0.1)) → ms.filterMap (fun m => if c m = true then some m.2.2 else none) = [m0.2.2]
  | [], m0, _, h, _ => nomatch h
  | m :: ms, m0, hn, h, hc => by
    obtain ⟨a, b⟩ := List.nodup_cons.mp hn
    rw [List.filterMap_cons]
    rcases List.mem_cons.mp h with e | h
    · rw [hc m, e, beq_self_eq_true, if_pos rfl]
      have : ms.filterMap (fun m => if c m = true then some m.2.2 else none) = [] := by
        rw [List.filterMap_eq_nil_iff]
        intro k hk
        rw [hc k, if_neg]
        intro z
        have z := beq_iff_eq.mp z
        rw [e] at z
        exact a (List.mem_map.mpr ⟨k, hk, z⟩)
      rw [← e]
      simp only [this]
    · have : c m = false := by
        rw [hc m]
        exact beq_eq_false_iff_ne.mpr fun z => a (List.mem_map.mpr ⟨m0, h, z.symm⟩)
      rw [this]
      simp only [Bool.false_eq_true, if_false]
      exact fm_one b h hc
theorem fm_none {c : Str × Tr × V → Bool} {ms : List (Str × Tr × V)} (h : ∀ m ∈ ms, c m = false) : ms.filterMap (fun m => if c m = true then some m.2.2 else none) = [] := by
  rw [List.filterMap_eq_nil_iff]
  intro m hm
  rw [h m hm]
  rfl
theorem strOk_asc {z : Str} (h : Asc z) : PyData.strOk z = true := by
  unfold PyData.strOk
  rw [Array.all_eq_true']
  intro c hc
  have := h c (by rw [cs]; exact Array.mem_toList_iff.mpr hc)
  simp only [decide_eq_true_eq]
  omega
theorem shaped_str {z : Str} (h : Asc z) : SeqAt.shaped (.str z) = true := by
  unfold SeqAt.shaped
  rw [show PyData.depth (.str z) = 0 from rfl, show (PyData.str z).canLay0 = PyData.strOk z by simp [PyData.canLay0], strOk_asc h]
  rfl
theorem eqv_str {z : Str} {d : PyData} (h : ∀ u, d = .str u → z ≠ u) : PyData.eqv (.str z) d = false := by
  cases d <;> first | rfl | skip
  rename_i u
  exact beq_eq_false_iff_ne.mpr (h u rfl)
theorem eqv_strs (z u : Str) : PyData.eqv (.str z) (.str u) = (z == u) := by simp [PyData.eqv]
/-- what is no text is no data text -/
theorem notStr_data {K : PySem.W.Frag} {N : List Addr} {H : Hp} {y : V} {d : PyData} (h : DtV N H y d) (n : NotStr K H y) : ∀ u, d ≠ .str u := fun u e => by
  subst e
  cases h
  obtain ⟨T0, ht, hk⟩ := n
  cases ht with
  | base h =>
    cases h
    exact absurd hk (by decide +kernel)
end Ve

namespace Up
open PySem PySem.Spec PyProof.Rows L2 Ub Ur Ug Ue
def sp_spoilt : Sp := fun vs H Q _ => ∃ st g l pp us ps, vs = [.ref st, .ref pp] ∧ H pp = some (.tup us) ∧ DtVs [st, g, l] H us (ps.map pairD) ∧ GoodP ps ∧ ps ≠ [] ∧ StAt H st g l ∧
  ∀ v d H', DtV [st, g, l] H' v d → areP d = false → Sm d → rpOk d = true → StAt H' st g l → Kp st g l H H' → Q v H'
/-- what _law_spoilt may put in a pair's place -/
def cands (w z : Str) (o : PyData) : List PyData := [.tuple [.str w, .str z, .str z], .tuple [.str w], .list [.str w, .str z], .tuple [.str z, .str w], o, .tuple [.str w, o], .tuple [.str "copy", .str z], .tuple [.str (w ++ "A"), .str z],
  .tuple [.str w, .str (z ++ " ")], .tuple [.str "abcdefghi", .str z], .tuple [.str w, .str "{}"], .tuple [.str "", .str z]]
theorem odds_no : ∀ o ∈ odds, (∀ ws, pair1 ws o = none) ∧ (∀ z, o = .str z → shapeOf z = none) ∧ (∀ qs, o = .tuple qs → qs.length ≤ 3 ∧ ∀ z, PyData.str z ∈ qs → z.length ≤ 3) := by
  intro o ho
  simp only [odds, List.mem_cons, List.not_mem_nil, or_false] at ho
  refine ⟨fun ws => ?_, fun z hz => ?_, fun qs hq => ?_⟩
  · rcases ho with rfl | rfl | rfl | rfl | rfl | rfl | rfl | rfl | rfl | rfl | rfl | rfl | rfl | rfl | rfl | rfl | rfl | rfl | rfl | rfl | rfl | rfl | rfl | rfl | rfl <;> rfl
  · have h := List.all_eq_true.mp (show odds.all (fun o => match o with | .str z => (shapeOf z).isNone | _ => true) = true by decide +kernel) o (by simp only [odds, List.mem_cons, List.not_mem_nil, or_false]; exact ho)
    rw [hz] at h
    exact Option.isNone_iff_eq_none.mp h
  · have h := List.all_eq_true.mp (show odds.all (fun o => match o with | .tuple qs => decide (qs.length ≤ 3) && qs.all (fun q => match q with | .str z => decide (z.length ≤ 3) | _ => true) | _ => true) = true by decide +kernel) o (by simp only [odds, List.mem_cons, List.not_mem_nil, or_false]; exact ho)
    rw [hq] at h
    simp only [Bool.and_eq_true, decide_eq_true_eq] at h
    refine ⟨h.1, fun z hz => ?_⟩
    have := List.all_eq_true.mp h.2 _ hz
    simpa using this
theorem isWord_A {z : Str} : isWord (z ++ "A") = false := by
  cases h : isWord (z ++ "A") with
  | false => rfl
  | true =>
    have hl := (isWord_iff.mp h).2.2.1 65 (by
      have : (65 : Nat) ∈ cs (z ++ "A") := by
        rw [cs_app]
        exact List.mem_append_right _ (by decide +kernel)
      exact this)
    exact absurd hl (by decide +kernel)
def Fit (x : PyData) : Prop := (∀ ws, pair1 ws x = none) ∧ RB 4 1000 x ∧ ∀ qs, x = .tuple qs → qs.length ≤ 3 ∧ ∀ y, PyData.str y ∈ qs → y.length ≤ 100
theorem rb1 {z : Str} (h : Asc z) (hl : z.length ≤ 13) : RB 3 140 (.str z) := (rb_str h hl).mono (by omega) (by omega)
theorem rbT {ds : List PyData} (h : ∀ d ∈ ds, RB 3 140 d) (hl : ds.length ≤ 3) : RB 4 1000 (.tuple ds) := (rb_tup h hl).mono (by omega) (by omega)
theorem rbL {ds : List PyData} (h : ∀ d ∈ ds, RB 3 140 d) (hl : ds.length ≤ 3) : RB 4 1000 (.list ds) := (rb_lst h hl).mono (by omega) (by omega)
theorem fit2 {a b : PyData} (h : ∀ ws, pair1 ws (.tuple [a, b]) = none) (ha : RB 3 140 a) (hb : RB 3 140 b) (la : ∀ y, a = .str y → y.length ≤ 100) (lb : ∀ y, b = .str y → y.length ≤ 100) : Fit (.tuple [a, b]) := by
  refine ⟨h, rbT (fun d hd => ?_) (by simp), fun qs hq => ?_⟩
  · simp only [List.mem_cons, List.not_mem_nil, or_false] at hd
    rcases hd with rfl | rfl
    · exact ha
    · exact hb
  · injection hq with hq
    subst hq
    refine ⟨by simp, fun y hy => ?_⟩
    simp only [List.mem_cons, List.not_mem_nil, or_false] at hy
    rcases hy with e | e
    · exact la y e.symm
    · exact lb y e.symm
theorem lstr {z : Str} {n : Nat} (h : z.length ≤ n) (hn : n ≤ 100) : ∀ y, PyData.str z = .str y → y.length ≤ 100 := fun y e => by
  injection e with e
  subst e
  omega
theorem cands_fit {w z : Str} {o : PyData} (hw : isWord w = true) (hz : z ∈ okTexts) (ho : o ∈ odds) : ∀ x ∈ cands w z o, Fit x := by
  intro x hx
  obtain ⟨z1, z2, z3, z4, z5⟩ := okTexts_some z hz
  have az : Asc z := asc_of z3
  have aw : Asc w := word_asc hw
  have lw := (isWord_len hw).2
  obtain ⟨o1, o2, o3⟩ := odds_no o ho
  have rw1 : RB 3 140 (.str w) := rb1 aw (by omega)
  have rz1 : RB 3 140 (.str z) := rb1 az (by omega)
  have ro : RB 3 140 o := (odds_rb o ho).mono (by omega) (by omega)
  have lo : ∀ y, o = .str y → y.length ≤ 100 := fun y e => by
    have := (odds_rb o ho).l
    rw [e] at this
    have h2 := List.all_eq_true.mp (show odds.all (fun o => match o with | .str z => decide (z.length ≤ 100) | _ => true) = true by decide +kernel) o ho
    rw [e] at h2
    simpa using h2
  have lW := lstr (z := w) lw (by omega)
  have lZ := lstr (z := z) z4 (by omega)
  simp only [cands, List.mem_cons, List.not_mem_nil, or_false] at hx
  rcases hx with rfl | rfl | rfl | rfl | rfl | rfl | rfl | rfl | rfl | rfl | rfl | rfl
  · refine ⟨fun ws => rfl, rbT (fun d hd => ?_) (by simp), fun qs hq => ?_⟩
    · simp only [List.mem_cons, List.not_mem_nil, or_false] at hd
      rcases hd with rfl | rfl | rfl
      · exact rw1
      · exact rz1
      · exact rz1
    · injection hq with hq
      subst hq
      refine ⟨by simp, fun y hy => ?_⟩
      simp only [List.mem_cons, List.not_mem_nil, or_false] at hy
      rcases hy with e | e | e
      · exact lW y e.symm
      · exact lZ y e.symm
      · exact lZ y e.symm
  · refine ⟨fun ws => rfl, rbT (fun d hd => ?_) (by simp), fun qs hq => ?_⟩
    · simp only [List.mem_cons, List.not_mem_nil, or_false] at hd
      rw [hd]; exact rw1
    · injection hq with hq
      subst hq
      refine ⟨by simp, fun y hy => ?_⟩
      simp only [List.mem_cons, List.not_mem_nil, or_false] at hy
      exact lW y hy.symm
  · refine ⟨fun ws => rfl, rbL (fun d hd => ?_) (by simp), fun qs hq => nomatch hq⟩
    simp only [List.mem_cons, List.not_mem_nil, or_false] at hd
    rcases hd with rfl | rfl
    · exact rw1
    · exact rz1
  · refine fit2 (fun ws => pair1_fst fun y e => ?_) rz1 rw1 lZ lW
    injection e with e
    rw [← e, z2]
    exact fun z => nomatch z.1
  · exact ⟨o1, ro.mono (by omega) (by omega), fun qs hq => ⟨(o3 qs hq).1, fun y hy => Nat.le_trans ((o3 qs hq).2 y hy) (by omega)⟩⟩
  · exact fit2 (fun ws => pair1_snd o2) rw1 ro lW lo
  · refine fit2 (fun ws => pair1_fst fun y e => ?_) (rb1 (asc_of (by decide +kernel)) (by decide +kernel)) rz1 (lstr (n := 4) (by decide +kernel) (by omega)) lZ
    injection e with e
    rw [← e, show isWord "copy" = false by decide +kernel]
    exact fun z => nomatch z.1
  · have la : (w ++ "A").length ≤ 9 := by rw [len_app]; exact Nat.add_le_add lw (show ("A" : Str).length ≤ 1 by decide +kernel)
    refine fit2 (fun ws => pair1_fst fun y e => ?_) (rb1 (asc_app aw (asc_of (by decide +kernel))) (by omega)) rz1 (lstr la (by omega)) lZ
    injection e with e
    rw [← e, isWord_A]
    exact fun z => nomatch z.1
  · have la : (z ++ " ").length ≤ 13 := by rw [len_app]; exact Nat.add_le_add z4 (show (" " : Str).length ≤ 1 by decide +kernel)
    refine fit2 (fun ws => pair1_snd fun y e => ?_) rw1 (rb1 (asc_app az (asc_of (by decide +kernel))) (by omega)) lW (lstr la (by omega))
    injection e with e
    rw [← e]
    exact z5
  · refine fit2 (fun ws => pair1_fst fun y e => ?_) (rb1 (asc_of (by decide +kernel)) (by decide +kernel)) rz1 (lstr (n := 9) (by decide +kernel) (by omega)) lZ
    injection e with e
    rw [← e, show isWord "abcdefghi" = false by decide +kernel]
    exact fun z => nomatch z.1
  · refine fit2 (fun ws => pair1_snd fun y e => ?_) rw1 (rb1 (asc_of (by decide +kernel)) (by decide +kernel)) lW (lstr (n := 2) (by decide +kernel) (by omega))
    injection e with e
    rw [← e]
    decide +kernel
  · refine fit2 (fun ws => pair1_fst fun y e => ?_) (rb1 (asc_of (by decide +kernel)) (by decide +kernel)) rz1 (lstr (n := 0) (by decide +kernel) (by omega)) lZ
    injection e with e
    rw [← e, show isWord "" = false by decide +kernel]
    exact fun z => nomatch z.1
/-- pairs that are small -/
def Small (x : PyData) : Prop := RB 4 1000 x ∧ ∀ qs, x = .tuple qs → qs.length ≤ 3 ∧ ∀ y, PyData.str y ∈ qs → y.length ≤ 100
theorem small_all {ds : List PyData} (h : ∀ d ∈ ds, Small d) (hl : ds.length ≤ 4) : Sm (.tuple ds) ∧ rpOk (.tuple ds) = true := by
  refine ⟨fun ps e => ?_, ((rb_tup (fun d hd => (h d hd).1) hl).rp (by omega) (by omega))⟩
  injection e with e
  subst e
  refine ⟨by omega, fun p hp qs hq => ?_⟩
  obtain ⟨h1, h2⟩ := (h p hp).2 qs hq
  exact ⟨by omega, fun z hz => Nat.le_trans (h2 z hz) (by omega)⟩
theorem pair_small {w z : Str} (hw : isWord w = true) (az : Asc z) (lz : z.length ≤ 40) : Small (.tuple [.str w, .str z]) := by
  have aw : Asc w := word_asc hw
  have lw := (isWord_len hw).2
  refine ⟨(rb_tup (k := 0) (n := 402) (m := 2) (fun d hd => ?_) (by simp)).mono (by omega) (by omega), fun qs hq => ?_⟩
  · simp only [List.mem_cons, List.not_mem_nil, or_false] at hd
    rcases hd with rfl | rfl
    · exact (rb_str aw lw).mono (by omega) (by omega)
    · exact (rb_str az lz).mono (by omega) (by omega)
  · injection hq with hq
    subst hq
    refine ⟨by simp, fun y hy => ?_⟩
    simp only [List.mem_cons, List.not_mem_nil, or_false] at hy
    rcases hy with e | e
    · injection e with e; rw [e]; omega
    · injection e with e; rw [e]; omega
theorem good_small {ps : List (Str × Str)} (hg : GoodP ps) : ∀ d ∈ ps.map pairD, Small d := fun d hd => by
  obtain ⟨p, hp, rfl⟩ := List.mem_map.mp hd
  obtain ⟨h1, h2⟩ := hg.ok p hp
  obtain ⟨z1, z2, z3, z4, z5⟩ := okTexts_some _ h2
  exact pair_small h1 (asc_of z3) (by omega)
theorem spoil_ok {ps : List (Str × Str)} {x : PyData} {i : Nat} (hg : GoodP ps) (hx : Fit x) (hi : i < ps.length) : areP (.tuple ((ps.take i).map pairD ++ x :: (ps.drop (i + 1)).map pairD)) = false ∧ Sm (.tuple ((ps.take i).map pairD ++ x :: (ps.drop (i + 1)).map pairD)) ∧ rpOk (.tuple ((ps.take i).map pairD ++ x :: (ps.drop (i + 1)).map pairD)) = true := by
  refine ⟨?_, small_all (fun d hd => ?_) ?_⟩
  · show (decide (_ ≤ 3) && parP _ [] []) = false
    rw [parP_bad _ _ _ _ fun ws' _ => hx.1 ws', Bool.and_false]
  · rcases List.mem_append.mp hd with hd | hd
    · obtain ⟨p, hp, rfl⟩ := List.mem_map.mp hd
      exact good_small hg _ (List.mem_map.mpr ⟨p, List.mem_of_mem_take hp, rfl⟩)
    · rcases List.mem_cons.mp hd with rfl | hd
      · exact hx.2
      · obtain ⟨p, hp, rfl⟩ := List.mem_map.mp hd
        exact good_small hg _ (List.mem_map.mpr ⟨p, List.mem_of_mem_drop hp, rfl⟩)
  · have := hg.len
    simp only [List.length_append, List.length_cons, List.length_map, List.length_take, List.length_drop]
    omega
/-! ### slices and sums of tuples -/
theorem cut_take {us : List V} {i : Nat} (hi : i ≤ us.length) : cutV us none (some (i : Int)) = us.take i := by
  unfold cutV
  rw [HT.sIx_nat, HT.sIx_none, Nat.min_eq_left hi]
  rfl
theorem cut_drop {us : List V} {i : Nat} (hi : i ≤ us.length) : cutV us (some (i : Int)) none = us.drop i := by
  unfold cutV
  rw [HT.sIx_nat, HT.sIx_none, Nat.min_eq_left hi, List.take_of_length_le (by rw [List.length_drop]; exact Nat.le_refl _)]
theorem cut_mid {us : List V} {i j : Nat} (hi : i ≤ j) (hj : j ≤ us.length) : cutV us (some (i : Int)) (some (j : Int)) = (us.drop i).take (j - i) := by
  unfold cutV
  rw [HT.sIx_nat, HT.sIx_nat, Nat.min_eq_left hj, Nat.min_eq_left (Nat.le_trans hi hj)]
theorem sl_any {K : PySem.W.Frag} {H : Hp} {a : Addr} {us ws : List V} {lo hi : Option Int} {Q : VK} (h : H a = some (.tup us)) (e : cutV us lo hi = ws) (q : ∀ p H', Same H H' → H' p = some (.tup ws) → (p = a ∨ H p = none) → Q (.ref p) H') : rSlA K (.ref a) lo hi H Q := by
  refine ⟨a, us, rfl, .inl (.inl h), fun z => ?_, fun _ p np => q p _ (same_upd np) (by rw [upd_same, e]) (.inr np)⟩
  refine q a H (Same.refl _) ?_ (.inl rfl)
  rw [h, ← e]
  unfold cutV
  rw [z.1, z.2]
  simp
theorem cat_any {K : PySem.W.Frag} {H : Hp} {a b : Addr} {xs ys : List V} {Q : VK} (ha : H a = some (.tup xs)) (hb : H b = some (.tup ys)) (hl : xs.length + ys.length ≤ 1000) (q : ∀ p H', Same H H' → H' p = some (.tup (xs ++ ys)) → (p = a ∨ p = b ∨ H p = none) → Q (.ref p) H') : rCatA K (.ref a) (.ref b) H Q := by
  refine ⟨a, b, xs, ys, rfl, rfl, .inl (.inl ha), .inl (.inl hb), Nat.le_trans hl (by decide), fun z => ?_, fun _ z => ?_, fun _ _ p np => q p _ (same_upd np) upd_same (.inr (.inr np))⟩
  · exact q b H (Same.refl _) (by rw [hb, z]; rfl) (.inr (.inl rfl))
  · exact q a H (Same.refl _) (by rw [ha, z, List.append_nil]) (.inl rfl)
/-! ### data at hand -/
structure Wk (st g l : Addr) (N : List Addr) (H0 H : Hp) (xs : List V) (ds : List PyData) : Prop where
  S : StAt H st g l
  k : Kp st g l H0 H
  hN : ∀ n ∈ N, ∃ o, H n = some o
  D : DtVs N H xs ds
theorem _root_.Ur.DtVs.app {N : List Addr} {H : Hp} : ∀ {xs ys : List V} {ds es : List PyData}, DtVs N H xs ds → DtVs N H ys es → DtVs N H (xs ++ ys) (ds ++ es)
  | [], _, _, _, .nil, h => h
  | _ :: _, _, _, _, .cons h r, k => .cons h (Ur.DtVs.app r k)
theorem _root_.Ur.DtVs.take {N : List Addr} {H : Hp} : ∀ {xs : List V} {ds : List PyData} (i : Nat), DtVs N H xs ds → DtVs N H (xs.take i) (ds.take i)
  | _, _, 0, _ => by rw [List.take_zero, List.take_zero]; exact .nil
  | [], _, _ + 1, .nil => .nil
  | _ :: _, _, i + 1, .cons h r => .cons h (Ur.DtVs.take i r)
theorem _root_.Ur.DtVs.drop {N : List Addr} {H : Hp} : ∀ {xs : List V} {ds : List PyData} (i : Nat), DtVs N H xs ds → DtVs N H (xs.drop i) (ds.drop i)
  | _, _, 0, h => h
  | [], _, _ + 1, .nil => .nil
  | _ :: _, _, i + 1, .cons _ r => Ur.DtVs.drop i r
theorem Wk.fresh {st g l : Addr} {N : List Addr} {H0 H : Hp} {xs : List V} {ds : List PyData} (W : Wk st g l N H0 H xs ds) {a : Addr} (na : H a = none) : a ∉ N := fun z => by
  obtain ⟨o, h⟩ := W.hN a z
  rw [na] at h
  cases h
theorem Wk.same {st g l : Addr} {N : List Addr} {H0 H H1 : Hp} {xs : List V} {ds : List PyData} (W : Wk st g l N H0 H xs ds) (s : Same H H1) : Wk st g l N H0 H1 xs ds :=
  ⟨W.S.same s, W.k.trans (Kp.of s), fun n hn => (W.hN n hn).imp fun o h => s _ _ h, W.D.same s⟩
theorem Wk.tup {st g l : Addr} {N : List Addr} {H0 H : Hp} {xs ys : List V} {ds es : List PyData} (W : Wk st g l N H0 H xs ds) {a : Addr} (na : H a = none) (h : DtVs N H ys es) : Wk st g l N H0 (upd H a (.tup ys)) (xs ++ [.ref a]) (ds ++ [.tuple es]) :=
  have s := same_upd (o := .tup ys) na
  have V := W.same s
  ⟨V.S, V.k, V.hN, V.D.app (.cons (.tup upd_same (W.fresh na) (h.same s)) .nil)⟩
theorem Wk.lst {st g l : Addr} {N : List Addr} {H0 H : Hp} {xs ys : List V} {ds es : List PyData} (W : Wk st g l N H0 H xs ds) {a : Addr} (na : H a = none) (h : DtVs N H ys es) : Wk st g l N H0 (upd H a (.lst ys)) (xs ++ [.ref a]) (ds ++ [.list es]) :=
  have s := same_upd (o := .lst ys) na
  have V := W.same s
  ⟨V.S, V.k, V.hN, V.D.app (.cons (.lst upd_same (W.fresh na) (h.same s)) .nil)⟩
mutual
theorem _root_.Ur.DtV.far {N M : List Addr} {H : Hp} (h : ∀ b o, H b = some o → b ∉ N → b ∉ M) : ∀ {v : V} {d : PyData}, DtV N H v d → DtV M H v d
  | _, _, .non => .non
  | _, _, .bl b => .bl b
  | _, _, .int i => .int i
  | _, _, .str z => .str z
  | _, _, .lst e n r => .lst e (h _ _ e n) (Ur.DtVs.far h r)
  | _, _, .tup e n r => .tup e (h _ _ e n) (Ur.DtVs.far h r)
theorem _root_.Ur.DtVs.far {N M : List Addr} {H : Hp} (h : ∀ b o, H b = some o → b ∉ N → b ∉ M) : ∀ {xs : List V} {ds : List PyData}, DtVs N H xs ds → DtVs M H xs ds
  | _, _, .nil => .nil
  | _, _, .cons e r => .cons (Ur.DtV.far h e) (Ur.DtVs.far h r)
end
/-- a new list that will change -/
theorem Wk.own {st g l : Addr} {N : List Addr} {H0 H : Hp} {xs : List V} {ds : List PyData} (W : Wk st g l N H0 H xs ds) {a : Addr} {o : HO} (na : H a = none) : Wk st g l (a :: N) H0 (upd H a o) xs ds := by
  have V := W.same (same_upd (o := o) na)
  refine ⟨V.S, V.k, fun n hn => ?_, (W.D.far (M := a :: N) fun b o' e n z => ?_).same (same_upd na)⟩
  · rcases List.mem_cons.mp hn with rfl | hn
    · exact ⟨_, upd_same⟩
    · exact V.hN n hn
  · rcases List.mem_cons.mp z with rfl | z
    · rw [na] at e; cases e
    · exact n z
theorem Wk.mut {st g l : Addr} {N : List Addr} {H0 H : Hp} {xs : List V} {ds : List PyData} (W : Wk st g l N H0 H xs ds) {a : Addr} {o : HO} (ha : a ∈ N) (h0 : H0 a = none) (h1 : a ≠ st) (h2 : a ≠ g) (h3 : a ≠ l) : Wk st g l N H0 (upd H a o) xs ds := by
  refine ⟨W.S.upd h1 h2 h3, fun b o' e n1 n2 n3 => ?_, fun n hn => ?_, W.D.keep fun b o' e n => ?_⟩
  · rw [upd_ne (ne_of_none e h0)]
    exact W.k b o' e n1 n2 n3
  · by_cases e : n = a
    · exact ⟨o, by rw [e]; exact upd_same⟩
    · obtain ⟨o', h⟩ := W.hN n hn
      exact ⟨o', by rw [upd_ne e]; exact h⟩
  · rw [upd_ne (show b ≠ a from fun z => n (by rw [z]; exact ha))]
    exact e
/-- after a draw -/
theorem Wk.kp {st g l : Addr} {N : List Addr} {H0 H H1 : Hp} {xs : List V} {ds : List PyData} (W : Wk st g l N H0 H xs ds) (hN : st ∈ N ∧ g ∈ N ∧ l ∈ N) (k : Kp st g l H H1) (S1 : StAt H1 st g l) : Wk st g l N H0 H1 xs ds := by
  refine ⟨S1, W.k.trans k, fun n hn => ?_, W.D.keep fun b o e n => k b o e (fun z => n (z ▸ hN.1)) (fun z => n (z ▸ hN.2.1)) (fun z => n (z ▸ hN.2.2))⟩
  obtain ⟨o, h⟩ := W.hN n hn
  obtain ⟨⟨_, _, _, _, y1, y2, y3, _⟩, _⟩ := id S1
  by_cases e1 : n = st
  · rw [e1]; exact ⟨_, y1⟩
  by_cases e2 : n = g
  · rw [e2]; exact ⟨_, y2⟩
  by_cases e3 : n = l
  · rw [e3]; exact ⟨_, y3⟩
  exact ⟨o, k _ _ h e1 e2 e3⟩
theorem Wk.start {st g l : Addr} {H0 H : Hp} {xs : List V} {ds : List PyData} (S : StAt H st g l) (k : Kp st g l H0 H) (D : DtVs [st, g, l] H xs ds) : Wk st g l [st, g, l] H0 H xs ds := by
  refine ⟨S, k, fun n hn => ?_, D⟩
  obtain ⟨⟨_, _, _, _, y1, y2, y3, _⟩, _⟩ := id S
  simp only [List.mem_cons, List.not_mem_nil, or_false] at hn
  rcases hn with rfl | rfl | rfl
  · exact ⟨_, y1⟩
  · exact ⟨_, y2⟩
  · exact ⟨_, y3⟩
theorem DtV.tup2 {N : List Addr} {H : Hp} {v : V} {p : Str × Str} (h : DtV N H v (pairD p)) : ∃ a, v = .ref a ∧ H a = some (.tup [.str p.1, .str p.2]) ∧ a ∉ N := by
  cases h with
  | tup e n r =>
    cases r with
    | cons h1 r =>
      cases r with
      | cons h2 r =>
        cases r
        cases h1
        cases h2
        exact ⟨_, rfl, e, n⟩
end Up

namespace Ve
open PySem PySem.Spec PyProof.Rows L2 Ub Ur Ug Ue Up Uo
/-! ### lists of trees -/
def TsAt (H : Hp) : List V → List Tr → Prop
  | [], [] => True
  | v :: vs, t :: ts => TrAt H t v ∧ TsAt H vs ts
  | [], _ :: _ => False
  | _ :: _, [] => False
theorem TsAt.len {H : Hp} : ∀ {vs : List V} {ts : List Tr}, TsAt H vs ts → vs.length = ts.length
  | [], [], _ => rfl
  | _ :: _, _ :: _, h => congrArg Nat.succ (TsAt.len h.2)
  | [], _ :: _, h => h.elim
  | _ :: _, [], h => h.elim
theorem TsAt.tups {H H' : Hp} (s : ∀ c xs, H c = some (.tup xs) → H' c = some (.tup xs)) : ∀ {vs : List V} {ts : List Tr}, TsAt H vs ts → TsAt H' vs ts
  | [], [], _ => trivial
  | _ :: _, _ :: _, h => ⟨h.1.tups s, TsAt.tups s h.2⟩
  | [], _ :: _, h => h.elim
  | _ :: _, [], h => h.elim
theorem TsAt.same {H H' : Hp} (s : Same H H') {vs : List V} {ts : List Tr} (h : TsAt H vs ts) : TsAt H' vs ts := h.tups fun c xs e => s _ _ e
theorem TsAt.snoc {H : Hp} {v : V} {t : Tr} (hv : TrAt H t v) : ∀ {vs : List V} {ts : List Tr}, TsAt H vs ts → TsAt H (vs ++ [v]) (ts ++ [t])
  | [], [], _ => ⟨hv, trivial⟩
  | _ :: _, _ :: _, h => ⟨h.1, TsAt.snoc hv h.2⟩
  | [], _ :: _, h => h.elim
  | _ :: _, [], h => h.elim
theorem TsAt.get {H : Hp} : ∀ {vs : List V} {ts : List Tr} {i : Nat} {v : V}, TsAt H vs ts → vs[i]? = some v → ∃ t, ts[i]? = some t ∧ TrAt H t v
  | v0 :: _, t0 :: _, 0, v, h, e => by
    rw [List.getElem?_cons_zero] at e
    cases e
    exact ⟨t0, rfl, h.1⟩
  | _ :: vs, _ :: ts, i + 1, v, h, e => by
    rw [List.getElem?_cons_succ] at e
    obtain ⟨t, h1, h2⟩ := TsAt.get h.2 e
    exact ⟨t, by rw [List.getElem?_cons_succ]; exact h1, h2⟩
  | [], _, i, v, _, e => by simp at e
  | _ :: _, [], _, _, h, _ => h.elim
theorem good_nil : good .nil := ⟨.inl rfl, by decide, by decide⟩
theorem kp_tups {st g l : Addr} {H H' : Hp} (S : StAt H st g l) (k : Kp st g l H H') : ∀ c xs, H c = some (.tup xs) → H' c = some (.tup xs) := fun c xs e => by
  obtain ⟨⟨_, _, _, _, h1, h2, h3, _⟩, _⟩ := S
  refine k c _ e (fun z => ?_) (fun z => ?_) (fun z => ?_)
  · rw [z, h1] at e; cases e
  · rw [z, h2] at e; cases e
  · rw [z, h3] at e; cases e
/-! ### odd values are no list of texts -/
def hst : List PyData → Bool
  | .str _ :: _ => false
  | _ => true
mutual
def nsl : PyData → Bool
  | .list ds => hst ds && nsls ds
  | .tuple ds => nsls ds
  | _ => true
def nsls : List PyData → Bool
  | [] => true
  | d :: ds => nsl d && nsls ds
end
theorem odds_nsl : ∀ d ∈ odds, nsl d = true := List.all_eq_true.mp (by decide +kernel)
mutual
theorem avoid {N : List Addr} {H : Hp} {b : Addr} {z : Str} {r : List V} (hb : H b = some (.lst (.str z :: r))) : ∀ {v : V} {d : PyData}, DtV N H v d → nsl d = true → DtV (b :: N) H v d
  | _, _, .non, _ => .non
  | _, _, .bl x, _ => .bl x
  | _, _, .int i, _ => .int i
  | _, _, .str y, _ => .str y
  | _, _, .lst (p := p) (xs := xs) (ds := ds) h n q, k => by
    have k : (hst ds && nsls ds) = true := by simpa only [nsl] using k
    obtain ⟨k1, k2⟩ := Bool.and_eq_true_iff.mp k
    refine .lst h (fun z => ?_) (avoids hb q k2)
    rcases List.mem_cons.mp z with e | e
    · rw [e, hb] at h
      cases h
      cases q with
      | cons a b =>
        cases a
        cases k1
    · exact n e
  | _, _, .tup (p := p) (xs := xs) (ds := ds) h n q, k => by
    have k : nsls ds = true := by simpa only [nsl] using k
    refine .tup h (fun z => ?_) (avoids hb q k)
    rcases List.mem_cons.mp z with e | e
    · rw [e, hb] at h
      cases h
    · exact n e
theorem avoids {N : List Addr} {H : Hp} {b : Addr} {z : Str} {r : List V} (hb : H b = some (.lst (.str z :: r))) : ∀ {xs : List V} {ds : List PyData}, DtVs N H xs ds → nsls ds = true → DtVs (b :: N) H xs ds
  | _, _, .nil, _ => .nil
  | _, _, .cons h q, k => by
    simp only [nsls, Bool.and_eq_true] at k
    obtain ⟨k1, k2⟩ := k
    exact .cons (avoid hb h k1) (avoids hb q k2)
end
/-! ### trees as data -/
def trF : Tr → List PyData
  | .nil => []
  | .cons w t r => .tuple [.str w, .tuple (trF t)] :: trF r
def trD (t : Tr) : PyData := .tuple (trF t)
theorem fs_dp {K : PySem.W.Frag} {H : Hp} : ∀ {t : Tr} {ps : List V}, FsAt H t ps → DpAll K H ps (trF t)
  | .nil, ps, h => by
    have e : ps = [] := h
    subst e
    exact .nil
  | .cons w t r, ps, h => by
    obtain ⟨p, q, qs, rfl, h2, ⟨a, ps', rfl, h3, h4⟩, h5⟩ := h
    exact .cons (.tup (.inl (.inl h2)) (.cons (.str w) (.cons (.tup (.inl (.inl h3)) (fs_dp h4)) .nil))) (fs_dp h5)
theorem tr_dp {K : PySem.W.Frag} {H : Hp} {t : Tr} {v : V} (h : TrAt H t v) : Dp K H v (trD t) := by
  obtain ⟨a, ps, rfl, h1, h2⟩ := h
  exact .tup (.inl (.inl h1)) (fs_dp h2)
theorem trF_eq : ∀ (t u : Tr), PyData.eqvAll (trF t) (trF u) = true ↔ t = u
  | .nil, .nil => by simp [trF, PyData.eqvAll]
  | .nil, .cons _ _ _ => by simp [trF, PyData.eqvAll]
  | .cons _ _ _, .nil => by simp [trF, PyData.eqvAll]
  | .cons w t r, .cons w' t' r' => by
    have h1 := trF_eq t t'
    have h2 := trF_eq r r'
    simp only [trF, PyData.eqvAll, PyData.eqv, Bool.and_true, Bool.and_eq_true, beq_iff_eq, h1, h2]
    constructor
    · rintro ⟨⟨rfl, rfl⟩, rfl⟩
      rfl
    · intro e
      cases e
      exact ⟨⟨rfl, rfl⟩, rfl⟩
theorem trD_eq (t u : Tr) : PyData.eqv (trD t) (trD u) = true ↔ t = u := by
  unfold trD
  rw [show PyData.eqv (.tuple (trF t)) (.tuple (trF u)) = PyData.eqvAll (trF t) (trF u) by simp [PyData.eqv]]
  exact trF_eq t u
theorem trF_lay : ∀ {t : Tr}, W t → PyData.canLayAll0 (trF t) = true
  | .nil, _ => by simp [trF, PyData.canLayAll0]
  | .cons w t r, ⟨a, _, c, d⟩ => by
    simp only [trF, PyData.canLayAll0, PyData.canLay0, strOk_asc (word_asc a), trF_lay c, trF_lay d, Bool.and_self]
theorem trF_dep : ∀ t : Tr, PyData.depthAll (trF t) ≤ 2 * t.sdep + 2
  | .nil => by simp [trF, PyData.depthAll]
  | .cons w t r => by
    have h1 := trF_dep t
    have h2 := trF_dep r
    have e : (Tr.cons w t r).sdep = max (if t.isNil then 0 else 1 + t.sdep) r.sdep := rfl
    rw [e]
    have e2 : PyData.depthAll (trF (.cons w t r)) = max (max 0 (max (PyData.depthAll (trF t) + 1) 0) + 1) (PyData.depthAll (trF r)) := by simp [trF, PyData.depthAll, PyData.depth]
    rw [e2]
    cases t with
    | nil =>
      have e3 : PyData.depthAll (trF .nil) = 0 := by simp [trF, PyData.depthAll]
      rw [e3]
      show _ ≤ 2 * max 0 r.sdep + 2
      omega
    | cons a b c =>
      show _ ≤ 2 * max (1 + (Tr.cons a b c).sdep) r.sdep + 2
      omega
theorem trD_shaped {t : Tr} (h : good t) : SeqAt.shaped (trD t) = true := by
  have h1 := (good_has h).1
  have h2 := trF_dep t
  have h3 : t.sdep ≤ 3 := by
    cases t with
    | nil => decide
    | cons a b c =>
      have : (Tr.cons a b c).depth = 1 + (Tr.cons a b c).sdep := rfl
      omega
  unfold SeqAt.shaped trD
  rw [show PyData.canLay0 (.tuple (trF t)) = PyData.canLayAll0 (trF t) by simp [PyData.canLay0], trF_lay (good_W h), show PyData.depth (.tuple (trF t)) = PyData.depthAll (trF t) + 1 by simp [PyData.depth]]
  simp only [Bool.true_and, decide_eq_true_eq]
  omega
theorem strs_dep : ∀ l : List Str, PyData.depthAll (l.map PyData.str) = 0
  | [] => by simp [PyData.depthAll]
  | z :: l => by simp [PyData.depthAll, PyData.depth, strs_dep l]
theorem strs_shaped {l : List Str} (h : ∀ z ∈ l, Asc z) : SeqAt.shaped (.list (l.map PyData.str)) = true := by
  unfold SeqAt.shaped
  rw [show PyData.canLay0 (.list (l.map PyData.str)) = PyData.canLayAll0 (l.map PyData.str) by simp [PyData.canLay0], canLayAll_strs', show PyData.depth (.list (l.map PyData.str)) = PyData.depthAll (l.map PyData.str) + 1 by simp [PyData.depth], strs_dep]
  rw [List.all_eq_true.mpr fun z hz => strOk_asc (h z hz)]
  rfl
theorem pks_asc {t : Tr} (h : good t) : ∀ z ∈ pks t, Asc z := fun z hz => by
  obtain ⟨m, hm, rfl⟩ := List.mem_map.mp hz
  exact (paths_good 3 (good_has h).1 h m hm).a
theorem due_shaped {o : Option Tr} (h : ∀ b, o = some b → good b) : SeqAt.shaped (dueD o) = true := by
  cases o with
  | none => decide +kernel
  | some b =>
    have hg := h b rfl
    have h1 := strs_shaped (pks_asc hg)
    unfold SeqAt.shaped at h1 ⊢
    obtain ⟨a1, a2⟩ := Bool.and_eq_true_iff.mp h1
    have a1 : PyData.canLayAll0 ((pks b).map PyData.str) = true := by simpa [PyData.canLay0] using a1
    have e : PyData.canLay0 (dueD (some b)) = true := by
      simp only [dueD, PyData.canLay0, PyData.canLayAll0, strOk_asc (text_asc hg.1), a1, Bool.and_self, Bool.and_true]
      decide +kernel
    rw [e]
    simp only [dueD, PyData.depth, PyData.depthAll, strs_dep]
    rfl
theorem due_eqv {o : Option Tr} (h : ∀ b, o = some b → good b) : PyData.eqv (dueD o) (dueD o) = true := SeqAt.eqv_refl _ (SeqAt.canLay_of_shaped (due_shaped h))
theorem strs_eqv {l : List Str} (h : ∀ z ∈ l, Asc z) : PyData.eqv (.list (l.map PyData.str)) (.list (l.map PyData.str)) = true := SeqAt.eqv_refl _ (SeqAt.canLay_of_shaped (strs_shaped h))
theorem good_text {t u : Tr} (h : good t) (k : good u) : t.text = u.text ↔ t = u := by
  constructor
  · intro e
    have h1 := shapeOf_in h
    rw [e, shapeOf_in k] at h1
    exact (Option.some.inj h1).symm
  · rintro rfl
    rfl
/-! ### texts near a path -/
def near7 (z : Str) : List Str := [cutS z (some 1) none, z ++ ".", z ++ " ", cutS z none (some (-1)), z ++ ".a", ("." : Str) ++ z, Txt.mul z 2]
theorem cut_any (z : Str) (lo hi : Option Int) : (cutS z lo hi).length ≤ z.length := by
  unfold cutS
  show (List.toArray _).size ≤ _
  rw [List.size_toArray, List.length_take, List.length_drop]
  have : z.cps.toList.length = z.length := len_toList z
  omega
theorem near_ok {z : Str} (h : Asc z) (hl : z.length ≤ 28) : ∀ y ∈ near7 z, y.length ≤ 100 ∧ Asc y := by
  intro y hy
  have e1 : ((" " : Str)).length = 1 := by decide +kernel
  have e2 : ((".a" : Str)).length = 2 := by decide +kernel
  have c1 := cut_any z (some 1) none
  have c2 := cut_any z none (some (-1))
  have m2 := mulLen z 2
  have m2' : (Txt.mul z 2).length = z.length * 2 := m2
  unfold near7 at hy
  simp only [List.mem_cons, List.not_mem_nil, or_false] at hy
  rcases hy with rfl | rfl | rfl | rfl | rfl | rfl | rfl
  · exact ⟨by omega, asc_cut h⟩
  · exact ⟨by rw [len_app, dot_len]; omega, asc_app h (asc_of (by decide +kernel))⟩
  · exact ⟨by rw [len_app, e1]; omega, asc_app h (asc_of (by decide +kernel))⟩
  · exact ⟨by omega, asc_cut h⟩
  · exact ⟨by rw [len_app, e2]; omega, asc_app h (asc_of (by decide +kernel))⟩
  · exact ⟨by rw [len_app, dot_len]; omega, asc_app (asc_of (by decide +kernel)) h⟩
  · exact ⟨by omega, asc_mul h⟩
/-- the list of what is asked, so far texts -/
structure As (H : Hp) (p : Addr) (ws : List Str) (n : Nat) : Prop where
  at_ : H p = some (.lst (ws.map V.str))
  ok : ∀ z ∈ ws, z.length ≤ 100 ∧ Asc z
  len : ws.length ≤ n
  hd : ws = [] ∨ ∃ r, ws = ("." : Str) :: r
theorem As.snoc {H : Hp} {p : Addr} {ws : List Str} {n : Nat} {z : Str} (h : As H p ws n) (hz : z.length ≤ 100 ∧ Asc z) (hh : ws = [] → z = ".") {H' : Hp} (e : H' p = some (.lst (ws.map V.str ++ [.str z]))) : As H' p (ws ++ [z]) (n + 1) := by
  refine ⟨by rw [e, List.map_append]; rfl, fun y hy => ?_, by rw [List.length_append]; have := h.len; exact Nat.succ_le_succ this, ?_⟩
  · rcases List.mem_append.mp hy with hy | hy
    · exact h.ok y hy
    · have e : y = z := by simpa using hy
      rw [e]
      exact hz
  · right
    rcases h.hd with e | ⟨r, e⟩
    · rw [hh e, e]
      exact ⟨[], rfl⟩
    · exact ⟨r ++ [z], by rw [e]; rfl⟩
theorem As.to {H H' : Hp} {p : Addr} {ws : List Str} {n m : Nat} (h : As H p ws n) (e : H' p = some (.lst (ws.map V.str))) (hm : n ≤ m) : As H' p ws m := ⟨e, h.ok, Nat.le_trans h.len hm, h.hd⟩
theorem sn_ne {α : Type} {l : List α} {z : α} : l ++ [z] ≠ [] := by simp
/-- an odd value, none of whose places is of N -/
def sp_oddN : Sp := fun vs H Q _ => ∃ (st g l : Addr) (N : List Addr), vs = [.ref st] ∧ StAt H st g l ∧ (∀ n ∈ N, ∃ o, H n = some o) ∧ ∀ v H', OddAt N H' v → StAt H' st g l → Kp st g l H H' → Q v H'
theorem odds_shp : ∀ d ∈ odds, SeqAt.shaped d = true := List.all_eq_true.mp (by decide +kernel)
/-! ### lists of shapes -/
abbrev AllZ : Addr → Prop := fun _ => True
def SsAt (C : Addr) (H : Hp) : List V → List Sg → Prop
  | [], [] => True
  | v :: vs, g :: gs => (∃ x, v = .ref x ∧ ShG AllZ C H x g) ∧ SsAt C H vs gs
  | [], _ :: _ => False
  | _ :: _, [] => False
theorem SsAt.len {C : Addr} {H : Hp} : ∀ {vs : List V} {gs : List Sg}, SsAt C H vs gs → vs.length = gs.length
  | [], [], _ => rfl
  | _ :: _, _ :: _, h => congrArg Nat.succ (SsAt.len h.2)
  | [], _ :: _, h => h.elim
  | _ :: _, [], h => h.elim
theorem SsAt.kz {C : Addr} {H H' : Hp} (k : Kz AllZ H H') : ∀ {vs : List V} {gs : List Sg}, SsAt C H vs gs → SsAt C H' vs gs
  | [], [], _ => trivial
  | _ :: _, _ :: _, h => ⟨h.1.imp fun x e => ⟨e.1, e.2.kz k⟩, SsAt.kz k h.2⟩
  | [], _ :: _, h => h.elim
  | _ :: _, [], h => h.elim
theorem SsAt.same {C : Addr} {H H' : Hp} (s : Same H H') {vs : List V} {gs : List Sg} (h : SsAt C H vs gs) : SsAt C H' vs gs := h.kz (kz_of s)
theorem SsAt.snoc {C : Addr} {H : Hp} {x : Addr} {g : Sg} (hx : ShG AllZ C H x g) : ∀ {vs : List V} {gs : List Sg}, SsAt C H vs gs → SsAt C H (vs ++ [.ref x]) (gs ++ [g])
  | [], [], _ => ⟨⟨x, rfl, hx⟩, trivial⟩
  | _ :: _, _ :: _, h => ⟨h.1, SsAt.snoc hx h.2⟩
  | [], _ :: _, h => h.elim
  | _ :: _, [], h => h.elim
theorem SsAt.get {C : Addr} {H : Hp} : ∀ {vs : List V} {gs : List Sg} {i : Nat} {v : V}, SsAt C H vs gs → vs[i]? = some v → ∃ g x, gs[i]? = some g ∧ v = .ref x ∧ ShG AllZ C H x g
  | v0 :: _, g0 :: _, 0, v, h, e => by
    rw [List.getElem?_cons_zero] at e
    cases e
    obtain ⟨x, h1, h2⟩ := h.1
    exact ⟨g0, x, rfl, h1, h2⟩
  | _ :: vs, _ :: gs, i + 1, v, h, e => by
    rw [List.getElem?_cons_succ] at e
    obtain ⟨g, x, h1, h2⟩ := SsAt.get h.2 e
    exact ⟨g, x, by rw [List.getElem?_cons_succ]; exact h1, h2⟩
  | [], _, i, v, _, e => by simp at e
  | _ :: _, [], _, _, h, _ => h.elim
theorem kz_mut {H : Hp} {D : Addr} {xs ys : List V} (h : H D = some (.lst xs)) : Kz AllZ H (upd H D (.lst ys)) := fun b o e n _ => by
  rw [upd_ne (fun z => by rw [z, h] at e; cases e; exact n _ rfl)]
  exact e
/-- whatever is asked of a tree -/
theorem asks_of {K : PySem.W.Frag} {H : Hp} {t : Tr} {y : V} {d : PyData} (hg : good t) (h : DtV [] H y d) : ∃ o, Asks K H t y o ∧ (∀ b, o = some b → good b) ∧ ((∃ z : Str, y = .str z) ∨ NotStr K H y) := by
  rcases h.strOr (K := K) with ⟨z, _, rfl⟩ | ⟨_, hn⟩
  · by_cases hz : z ∈ pks t
    · obtain ⟨m, hm, rfl⟩ := List.mem_map.mp hz
      exact ⟨some m.2, .inl ⟨m, hm, rfl, rfl⟩, fun b e => by cases e; exact (paths_good 3 (good_has hg).1 hg m hm).g, .inl ⟨_, rfl⟩⟩
    · exact ⟨none, .inr ⟨.inr ⟨z, rfl, hz⟩, rfl⟩, (fun b e => nomatch e), .inl ⟨_, rfl⟩⟩
  · exact ⟨none, .inr ⟨.inl hn, rfl⟩, (fun b e => nomatch e), .inr hn⟩
theorem Asks.same {K : PySem.W.Frag} {H H' : Hp} {t : Tr} {y : V} {o : Option Tr} {d : PyData} (hd : DtV [] H y d) (s : Same H H') (h : Asks K H t y o) : Asks K H' t y o := by
  rcases h with h | ⟨h | h, e⟩
  · exact .inl h
  · exact .inr ⟨.inl (notStr_same hd s h), e⟩
  · exact .inr ⟨.inr h, e⟩
end Ve

namespace Ve
open PySem PySem.Spec PyProof.Rows L2 Ub Ur Ug Ue Up Uo Vk
/-! ### a comprehension over a dict's items -/
theorem lcI {g : TG} {tt : TT} {te : TE} {vs : List Nat} {σ : L2.St} {H1 : Hp} {D d : Addr} {o : Obj} {kvs : List (Key × V)} {Qd : Hp → Prop} {α : Type} (ms : List α) (hl : ms.length = kvs.length) (h : α → Option V) (hd : H1 d = some (.frz o (.dK kvs))) (hz : kvs.length ≤ sizeLine) (hD : H1 D = none)
    (turn : ∀ (i : Nat) k v m T H, kvs[i]? = some (k, v) → ms[i]? = some m → Same H1 H → H T = some (.tup [kV k, v]) → LcTurn g tt te vs σ (fun _ => h m) (.ref T) H)
    (done : ∀ H', Same H1 H' → H' D = some (.lst (ms.filterMap h)) → Qd H') :
    ∃ W : Nat → Nat → Hp → Prop, (∃ m, W 0 m (upd H1 D (.lst []))) ∧ ∀ i m H, W i m H →
      ((Iti d o kvs).stop i H ∧ Qd H) ∨ ((Iti d o kvs).go i H ∧ ∃ Nx : Hp → Prop, (∀ H', Nx H' → ∃ m', m' < m ∧ W (i + 1) m' H') ∧ ∀ x H', (Iti d o kvs).yld i H x H' → g x (wipe σ vs) H' fun σ2 H2 => wipe σ2 vs = wipe σ vs ∧ tt σ2 H2 fun b H3 =>
        if b = true then te σ2 H3 fun y H4 => ∃ acc, H4 D = some (.lst acc) ∧ acc.length < sizeLine ∧ Nx (upd H4 D (.lst (acc ++ [y]))) else Nx H3) :=
  lc_it (walk_items (d := d) (o := o) (kvs := kvs)) (fun i H => Same H1 H ∧ H D = some (.lst ((ms.take i).filterMap h))) ⟨same_upd hD, upd_same⟩ (fun i H _ p => p.1 _ _ hd) (fun i x H H' hi p y => by
    obtain ⟨T, kx, v, rfl, nT, rfl, e1, e2⟩ := y
    have him : i < ms.length := by omega
    have hm : ms[i]? = some ms[i] := List.getElem?_eq_getElem him
    have hk : kvs[i]? = some kvs[i] := List.getElem?_eq_getElem hi
    have e1 : (kvs[i]?.map fun kv => kV kv.1) = some kx := e1
    have e2 : kvs[i]?.map Prod.snd = some v := e2
    rw [hk] at e1 e2
    cases e1
    cases e2
    have sT := same_upd (o := .tup [kV kvs[i].1, kvs[i].2]) nT
    have et : (ms.take (i + 1)).filterMap h = (ms.take i).filterMap h ++ (h ms[i]).toList := by
      rw [List.take_add_one, hm, List.filterMap_append]
      cases e : h ms[i] <;> simp [e]
    have ln : ((ms.take i).filterMap h).length ≤ i := by
      have := List.length_filterMap_le h (ms.take i)
      rw [List.length_take] at this
      omega
    refine turn i kvs[i].1 kvs[i].2 _ T _ hk hm (p.1.trans sT) upd_same (fun y H4 => ∃ acc, H4 D = some (.lst acc) ∧ acc.length < sizeLine ∧ (Same H1 (upd H4 D (.lst (acc ++ [y]))) ∧ (upd H4 D (.lst (acc ++ [y]))) D = some (.lst ((ms.take (i + 1)).filterMap h)))) (fun H3 => Same H1 H3 ∧ H3 D = some (.lst ((ms.take (i + 1)).filterMap h))) (fun y H' e s' => ?_) (fun H' e s' => ?_)
    · have e : h ms[i] = some y := e
      refine ⟨_, s' _ _ (sT _ _ p.2), by omega, fun b o q => ?_, ?_⟩
      · rw [upd_ne (ne_of_none q hD)]
        exact s' _ _ (sT _ _ (p.1 _ _ q))
      · rw [upd_same, et, e]
        rfl
    · have e : h ms[i] = none := e
      refine ⟨(p.1.trans sT).trans s', ?_⟩
      rw [et, e, s' _ _ (sT _ _ p.2)]
      simp) (fun H p => done H p.1 (by have := p.2; rwa [← hl, List.take_length] at this))
/-! ### what a shape tells -/
/-- a property -/
def sp_shP (C : Addr) (f : Tr → V) : Sp := fun vs H Q _ => ∃ x g Z, vs = [.ref x] ∧ ShG Z C H x g ∧ good g.tr ∧ ∀ H', Same H H' → Q (f g.tr) H'
/-- the paths of records (b = false), of plain values (b = true) -/
def kindP (b : Bool) (t : Tr) : List Str := ((paths t).filter fun m => m.2.isNil == b).map (·.1)
def sp_kindP (C : Addr) (b : Bool) : Sp := fun vs H Q _ => ∃ x g Z, vs = [.ref x] ∧ ShG Z C H x g ∧ good g.tr ∧ ∀ D H', Same H H' → H D = none → H' D = some (.lst ((kindP b g.tr).map V.str)) → Q (.ref D) H'
def sp_strS (C : Addr) : Sp := fun vs H Q _ => ∃ x g Z, vs = [.ref x] ∧ ShG Z C H x g ∧ Q (.str g.tr.text) H
theorem fm_kind (b : Bool) (t : Tr) : (paths t).filterMap (fun m => if (m.2.isNil == b) = true then some (V.str m.1) else none) = (kindP b t).map V.str := by
  unfold kindP
  rw [List.map_map]
  generalize paths t = l
  induction l with
  | nil => rfl
  | cons m r ih =>
    rw [List.filterMap_cons, List.filter_cons]
    by_cases h : (m.2.isNil == b) = true
    · rw [if_pos h, if_pos h, List.map_cons, ih]
      rfl
    · rw [if_neg h, if_neg h, ih]
/-! ### o.m() -/
theorem pe_meth0K {X : Cx} {CX : CXT} {k : Nat} {C : Addr} {m : Str} {ps : List Str} {sp : Sp} {o : Expr} {ta : TE} {apos pos : Pos} {E : XK} {pl : Sem Bool} (c : CalK X.prog X.w X.K X.mg X.base CX k C m ps sp) (cl : Cls X.K C) (hr : Room k X.A) (hx : Passes CX X E) (he : PE X o ta)
    (ht : eval (.Call (.Attribute o m apos) [] [] pos) X.env = (do
      let ov ← eval o X.env
      standAt apos.atName
      let (f, first) ← holding [ov] (getMethod ov m pl)
      callWith pos f first (backTo pos (starEach [] X.env)) (backToKw pos (keywordEach [] X.env))) := by rfl) :
    PE X (.Call (.Attribute o m apos) [] [] pos) (tMeth C m sp [] E ta tNil) := by
  obtain ⟨f, fd, M, _, F, hb⟩ := c.ex
  exact pe_meth0 (pl := pl) he cl M F hr hb .nil hx ht
/-! ### a tuple turned about -/
section
variable {pg : Program} {wd : World} {Ar : Around} {Ex : Value → Shared → Prop} {sh : Shared}
theorem back_adjust (n : Nat) : Builtin.Slice.sliceAdjust none none (-1) (n : Int) = ((n : Int) - 1, -1) := rfl
theorem back_places (n : Nat) : Builtin.Slice.slicePlaces ((n : Int) - 1) (-1) (-1) = n := by
  unfold Builtin.Slice.slicePlaces
  rw [if_neg (by decide)]
  by_cases c : ((n : Int) - 1 > -1)
  · rw [if_pos c]
    have : ((n : Int) - 1 - -1 - 1) / (- -1) = (n : Int) - 1 := by
      rw [show (- -1 : Int) = 1 from rfl, Int.ediv_one]
      omega
    rw [this]
    omega
  · rw [if_neg c]
    have : n = 0 := by omega
    rw [this]
    rfl
theorem back_applied {z : Addr} {n : Nat} {u2 : Value} {R : Int × Int × Nat → Shared → Prop} (hz : sh.heap.IsSliceOf z .none .none u2) (p2 : IsPart u2 (some (-1))) (q : R ((n : Int) - 1, -1, n) sh) :
    wpAny (model pg wd) Ar (Builtin.Slice.sliceApplied (.ref z) (pure (n : Int))) R Ex sh := by
  obtain ⟨oz, ez, _, dz⟩ := hz
  unfold Builtin.Slice.sliceApplied
  refine wpAny_bind ?_
  unfold Builtin.Slice.sliceFields
  refine wpAny_bind (wpAny_field ez dz (x := .none) rfl (wpAny_bind (wpAny_field ez dz (x := .none) rfl ?_)))
  refine wpAny_bind (wpAny_field ez dz (x := u2) rfl (wpAny_pure ?_))
  refine wpAny_bind (HT.slicePart_ p2 ?_)
  show wpAny _ _ (if ((-1 : Int) == 0) = true then _ else _) _ _ _
  rw [if_neg (by decide)]
  refine wpAny_bind (HT.slicePart_ .none ?_)
  refine wpAny_bind (HT.slicePart_ .none (wpAny_bind (wpAny_pure ?_)))
  show wpAny _ _ (match Builtin.Slice.sliceAdjust none none (-1) (n : Int) with | (a, b) => pure (a, (-1 : Int), Builtin.Slice.slicePlaces a b (-1))) _ _ _
  rw [back_adjust]
  show wpAny _ _ (pure ((n : Int) - 1, (-1 : Int), Builtin.Slice.slicePlaces ((n : Int) - 1) (-1) (-1))) _ _ _
  rw [back_places]
  exact wpAny_pure q
theorem back_pick (its : Array Value) : ((List.range its.size).filterMap fun (k : Nat) => its[((its.size : Int) - 1 + (k : Int) * (-1)).toNat]?).toArray = its.toList.reverse.toArray := by
  have e1 : (List.range its.size).filterMap (fun (k : Nat) => its[((its.size : Int) - 1 + (k : Int) * (-1)).toNat]?) = ((List.range its.size).map fun k => its.size - 1 - k).filterMap (its[·]?) := by
    rw [List.filterMap_map]
    generalize hN : List.range its.size = l
    have hl : ∀ k ∈ l, k < its.size := fun k hk => List.mem_range.mp (by rw [hN]; exact hk)
    clear hN
    induction l with
    | nil => rfl
    | cons k r ih =>
      have := hl k (List.mem_cons_self ..)
      have e2 : ((its.size : Int) - 1 + (k : Int) * (-1)).toNat = its.size - 1 - k := by omega
      rw [List.filterMap_cons, List.filterMap_cons, ih fun j hj => hl j (List.mem_cons_of_mem _ hj), e2]
      rfl
  rw [e1, PySem.W.krv_range, List.filterMap_reverse, PySem.W.krv_all]
theorem back_get {tp z : Addr} {its : Array Value} {u2 : Value} {R : Value → Shared → Prop} (hT : IsTup sh.heap tp its) (hz : sh.heap.IsSliceOf z .none .none u2) (p2 : IsPart u2 (some (-1))) (hs : its.size ≤ sizeLine)
    (q : R (.ref sh.heap.objs.size) { sh with heap := sh.heap.push { cls := .type "tuple", data := .seq its.toList.reverse.toArray } }) : wpAny (model pg wd) Ar (getItem (.ref tp) (.ref z)) R Ex sh := by
  have hk : sizeOk (.seq its.toList.reverse.toArray) := by
    show its.toList.reverse.toArray.size ≤ sizeLine
    rw [List.size_toArray, List.length_reverse, Array.length_toList]
    exact hs
  obtain ⟨oz, ez, cz, dz⟩ := id hz
  refine wpAny_getItem_slot hT.typeIs (by decide) PyProof.Rows.slot_tuple_getitem ?_
  refine wpAny_call_entry PyProof.Rows.slot_tuple_getitem hT.typeIs entry_tuple_getitem ?_ (args_tuple_getitem _ _)
  show wpAny _ _ (Builtin.Tuple.tupleItemsOf (.ref tp) >>= _) _ _ _
  refine wpAny_bind (tupleItemsOf_ hT ?_)
  refine wpAny_bind (wpAny_typeOf (T := "slice") ⟨oz, ez, cz⟩ ?_)
  rw [if_pos (by decide)]
  refine wpAny_bind (back_applied hz p2 ?_)
  show wpAny _ _ (if ((((its.size : Int) - 1) == 0 && (-1 : Int) == 1) && its.size == its.size) = true then _ else _) _ _ _
  rw [if_neg (by simp), back_pick]
  first
    | exact wpAny_bind (m := Builtin.Tuple.tupleExact _) (wpAny_newObj_type (wpAny_pure ⟨_, rfl, q⟩) hk)
    | exact wpAny_bind (m := Builtin.Tuple.tupleExact _) (wpAny_newObj_type (wpAny_bind (wpAny_pure (wpAny_pure ⟨_, rfl, q⟩))) hk)
    | exact wpAny_bind (wpAny_bind (m := Builtin.Tuple.tupleExact _) (wpAny_newObj_type (wpAny_pure (wpAny_pure ⟨_, rfl, q⟩)) hk))
    | exact wpAny_bind (wpAny_bind (m := Builtin.Tuple.tupleExact _) (wpAny_newObj_type (wpAny_pure ⟨_, rfl, q⟩) hk))
end
def tRevT (K : PySem.W.Frag) (te : TE) : TE := fun σ H Q => te σ H fun x H1 => ∃ a xs, x = .ref a ∧ SqT K H1 a xs ∧ ∀ p, H1 p = none → Q (.ref p) (upd H1 p (.tup xs.reverse))
theorem pe_revT {X : Cx} (K : PySem.W.Frag) {e : Expr} {te : TE} {k : Nat} {q1 q2 q3 pos : Pos} (he : PE X e te) (eK : X.K = K := by rfl) : PE X (.Subscript e (.Slice none none (some (.UnaryOp .USub (.Constant (.int 1) k q1) q2)) q3) pos) (tRevT K te) := by
  subst eK
  refine ⟨fun pins s σ H Q I h => Subscript_ (thn (he.run pins s σ H _ I h) fun v s1 ⟨x, H1, I1, r1, a, xs, ex, hx, q⟩ => ?_)⟩
  subst ex
  cases r1
  have part : PO X (some (.UnaryOp .USub (.Constant (.int 1) k q1) q2)) _ := po_some (pe_un un_neg (pe_int (i := 1) (j := k) (pos := q1)))
  refine wpAny_Slice (thn (po_none.run pins s1 σ H1 (fun o G => o = none ∧ G = H1) I1 ⟨rfl, rfl⟩) fun u0 s2 ⟨_, G0, J0, b0, c0, d0⟩ => ?_)
  subst c0 d0
  refine thn (po_none.run pins s2 σ G0 (fun o G => o = none ∧ G = G0) J0 ⟨rfl, rfl⟩) fun u1 s3 ⟨_, G1, J1, b1, c1, d1⟩ => ?_
  subst c1 d1
  refine thn (part.run pins s3 σ G1 (fun o G => o = some (-1) ∧ G = G1) J1 ⟨1, rfl, -1, rfl, rfl, rfl⟩) fun u2 s4 ⟨_, G2, J2, b2, c2, d2⟩ => ?_
  subst c2 d2
  cases b0
  cases b1
  have J3 : Inv X pins σ G2 { s4 with heap := s4.heap.push { cls := .type "slice", data := .fields #[.none, .none, u2] } } := J2.kept (t' := s4.toks) fun b ob z => Heap.get?_push_of_some _ z
  obtain ⟨its, r, hT, hz⟩ := J3.tuple hx
  refine tail_any (ops := [.ref a, .ref s4.heap.objs.size]) hT.typeIs PyProof.Rows.slot_tuple_getitem.lookup ?_ (by with_unfolding_all rfl)
  refine back_get hT (Heap.IsSliceOf.new _ .none .none u2) b2 (by rw [List.size_toArray, ← r.length]; exact hz) ?_
  refine ⟨.ref _, _, J3.laid (t' := s4.toks) (o := .tup xs.reverse) (fun b ob z => Heap.get?_push_of_some _ z) (Nat.le_refl _) ?_, rfl, q _ (J3.hok.fresh (Nat.le_refl _))⟩
  exact ⟨by rw [List.length_reverse]; have := r.length; omega, _, r.reverse, _, Heap.get?_push_size _ rfl, rfl, 0, rfl⟩
/-! ### the fields turned about -/
theorem fineF_len {p : Tr → Prop} : ∀ {n : Nat} {kn : List Str} {t : Tr}, FineF p n kn t → t.fields.length ≤ n
  | 0, _, _, hf => hf.elim
  | _ + 1, _, .nil, hf => hf.elim
  | n + 1, kn, .cons w t r, ⟨_, _, _, h4⟩ => by
    show r.fields.length + 1 ≤ n + 1
    rcases h4 with rfl | h4
    · exact Nat.succ_le_succ (Nat.zero_le _)
    · have := fineF_len h4
      omega
def turned (t : Tr) : Tr := .ofFields t.fields.reverse
theorem turned_good {t : Tr} (h : good t) : good (turned t) := by
  obtain ⟨h1, h2, h3⟩ := h
  rcases id h1 with e | hf
  · rw [e]
    exact good_nil
  · obtain ⟨a, b⟩ := fineF_fields hf
    have l3 := fineF_len hf
    have ne : t.fields ≠ [] := fun z => by
      cases t with
      | nil => exact hf
      | cons w t r => cases z
    have nr : t.fields.reverse ≠ [] := fun z => ne (List.reverse_eq_nil_iff.mp z)
    obtain ⟨r1, r2, _⟩ := recs_of nr
    obtain ⟨q1, q2, _⟩ := recs_of ne
    rw [Tr.of_fields] at q1 q2
    have s1 : sumR t.fields.reverse = sumR t.fields := by unfold sumR; rw [List.map_reverse, List.sum_reverse]
    have s2 : sumP t.fields.reverse = sumP t.fields := by unfold sumP; rw [List.map_reverse, List.sum_reverse]
    refine ⟨.inr (fineF_of _ _ _ nr (by rw [List.length_reverse]; exact l3) (fun m hm => ?_) ?_), ?_, ?_⟩
    · obtain ⟨c1, c2, c3⟩ := a m (List.mem_reverse.mp hm)
      exact ⟨c1, c2, c3⟩
    · rw [List.map_reverse]
      exact List.pairwise_reverse.mpr (List.Pairwise.imp (fun z => Ne.symm z) b)
    · show (Tr.ofFields t.fields.reverse).recs ≤ 5
      rw [r1, s1, ← q1]
      exact h2
    · show (Tr.ofFields t.fields.reverse).plains ≤ 5
      rw [r2, s2, ← q2]
      exact h3
theorem fsAt_rev {H : Hp} : ∀ {t : Tr} {us : List V}, FsAt H t us → FsAt H (turned t) us.reverse
  | .nil, us, h => by
    have e : us = [] := h
    rw [e]
    exact (rfl : ([] : List V).reverse = [])
  | .cons w t r, us, ⟨p, q, qs, e, h1, h2, h3⟩ => by
    have ih := fsAt_rev h3
    rw [e, List.reverse_cons]
    have ef : turned (.cons w t r) = .ofFields (r.fields.reverse ++ [(w, t)]) := by
      unfold turned
      show Tr.ofFields ((w, t) :: r.fields).reverse = _
      rw [List.reverse_cons]
    rw [ef]
    exact FsAt.snoc ih h1 h2
theorem strsT_shaped {l : List Str} (h : ∀ z ∈ l, Asc z) : SeqAt.shaped (.tuple (l.map PyData.str)) = true := by
  unfold SeqAt.shaped
  rw [show PyData.canLay0 (.tuple (l.map PyData.str)) = PyData.canLayAll0 (l.map PyData.str) by simp [PyData.canLay0], canLayAll_strs', show PyData.depth (.tuple (l.map PyData.str)) = PyData.depthAll (l.map PyData.str) + 1 by simp [PyData.depth], strs_dep]
  rw [List.all_eq_true.mpr fun z hz => strOk_asc (h z hz)]
  rfl
theorem strsT_nil (l : List Str) : PyData.eqv (.tuple (l.map PyData.str)) (.tuple []) = l.isEmpty := by cases l <;> simp [PyData.eqv, PyData.eqvAll]
abbrev wds (t : Tr) : List Str := t.fields.map (·.1)
theorem wds_asc {t : Tr} (h : good t) : ∀ z ∈ wds t, Asc z := fun z hz => by
  obtain ⟨m, hm, rfl⟩ := List.mem_map.mp hz
  exact word_asc ((good_fields h).1 m hm).2
theorem wds_nil (t : Tr) : (wds t).isEmpty = t.isNil := by rw [List.isEmpty_map, Tr.nil_iff]
theorem dp_strs {K : PySem.W.Frag} {H : Hp} : ∀ l : List Str, DpAll K H (l.map V.str) (l.map PyData.str)
  | [] => .nil
  | z :: l => .cons (.str z) (dp_strs l)
theorem trD_nil (t : Tr) : PyData.eqv (trD t) (.tuple []) = t.isNil := by cases t <;> simp [trD, trF, PyData.eqv, PyData.eqvAll, Tr.isNil]
theorem cut_last (xs : List V) (y : V) : cutV (xs ++ [y]) none (some (-1)) = xs := by
  unfold cutV
  have e : HT.sIx (xs ++ [y]).length (xs ++ [y]).length (some (-1)) = xs.length := by
    show (if (-1 : Int) < 0 then ((-1 : Int) + (((xs ++ [y]).length : Nat) : Int)).toNat else min (-1 : Int).toNat (xs ++ [y]).length) = _
    rw [if_pos (by decide), List.length_append]
    show ((-1 : Int) + ((xs.length + 1 : Nat) : Int)).toNat = xs.length
    omega
  rw [e, HT.sIx_none]
  simp
theorem kind_asc {b : Bool} {t : Tr} (h : good t) : ∀ z ∈ kindP b t, Asc z := fun z hz => by
  obtain ⟨m, hm, rfl⟩ := List.mem_map.mp hz
  exact pks_asc h _ (List.mem_map.mpr ⟨m, (List.mem_filter.mp hm).1, rfl⟩)
theorem kind_len (b : Bool) (t : Tr) : (kindP b t).length ≤ 1 + t.size := by
  unfold kindP
  rw [List.length_map]
  have := List.length_filter_le (fun m : Str × Tr => m.2.isNil == b) (paths t)
  have e : (paths t).length = 1 + t.size := by show (fp t).length + 1 = _; rw [fp_len]; omega
  omega
end Ve

namespace Lx
open PySem PySem.Spec PyProof.Rows L2 Ub Ur Ug Ue Up Uo Ve Va Vk
section
variable {P : Program} {w : World} {K : PySem.W.Frag} {mg : Str → Option Value} {base : Heap}
/-! ### the properties -/
theorem lk5 {z : Str} {tv : V} {na fa sa : Addr} : ([("text", V.str z), ("tree", tv), ("names", .ref na), ("fields", .ref fa), ("spots", .ref sa)] : List (Str × V)).lookup ("names" : Str) = some (V.ref na) := rfl
theorem sc_is_plain : FnScope ["self"] ["self"] (defScope s_Shape_is_plain) := ⟨rfl, rfl, rfl, by decide +kernel, rfl, by decide +kernel, by decide +kernel⟩
theorem ok_is_plain {f : Addr} {fd : FuncData} (F : FunD K "is_plain" "Shape.is_plain" (defArgs s_Shape_is_plain) (defBody s_Shape_is_plain) (defScope s_Shape_is_plain) [] [] f fd) (T : Tx K mg) : FnOk P w K mg base CX0 1 f fd ["self"] (sp_shP (He.ga K "Shape") fun t => .bl t.isNil) := by
  refine F.ok sc_is_plain (fun vs H Q E h => by obtain ⟨x, g, Z, rfl, _⟩ := h; rfl) (fun cdv A outer s H vs Q E hr h => ?_)
  obtain ⟨x, g, Z, rfl, sh, hg, q⟩ := h
  refine ⟨_, PSs.nox (pss_one (ps_ret (pe_cmpR (op_eq_nilK K hr.units0) (pe_fldK K (pv 0) rfl) (pe_tup pa_nil) (nomark _)))), ?_⟩
  obtain ⟨dx, tv, na, fa, sa, h1, h2, h3, _⟩ := sh.1
  refine ⟨_, rfl, x, _, dx, _, _, rfl, h1, T.k_Shape, T.n_Shape_names, lk5, Nat.zero_le _, fun e ne => ?_⟩
  have s1 := same_upd (o := .tup []) ne
  refine ⟨na, e, _, rfl, rfl, .inl (.inl (s1 _ _ h3)), .inl (.inl upd_same), ?_⟩
  have ee : (g.tr.fields.map fun m => V.str m.1).isEmpty = g.tr.isNil := by rw [List.isEmpty_map, Tr.nil_iff]
  rw [ee]
  exact q _ s1
theorem lk2 {z : Str} {tv : V} {na fa sa : Addr} : ([("text", V.str z), ("tree", tv), ("names", .ref na), ("fields", .ref fa), ("spots", .ref sa)] : List (Str × V)).lookup ("tree" : Str) = some tv := rfl
theorem sc_pplains : FnScope ["self"] ["self"] (defScope s_Shape_plains) := ⟨rfl, rfl, rfl, by decide +kernel, rfl, by decide +kernel, by decide +kernel⟩
theorem ok_pplains {f : Addr} {fd : FuncData} (F : FunD K "plains" "Shape.plains" (defArgs s_Shape_plains) (defBody s_Shape_plains) (defScope s_Shape_plains) [] [] f fd) (T : Tx K mg) (c_plains_of : Cal P w K mg base 4 "plains_of" ["tree"] (sp_tree 4 fun t => .int (t.plains : Nat))) : FnOk P w K mg base CX0 5 f fd ["self"] (sp_shP (He.ga K "Shape") fun t => .int (t.plains : Nat)) := by
  refine F.ok sc_pplains (fun vs H Q E h => by obtain ⟨x, g, Z, rfl, _⟩ := h; rfl) (fun cdv A outer s H vs Q E hr h => ?_)
  obtain ⟨x, g, Z, rfl, sh, hg, q⟩ := h
  refine ⟨_, PSs.nox (pss_one (ps_ret (pe_cal c_plains_of (hr.mono (by omega)) (by rfl) (pa_cons (pe_fldK K (pv 0) rfl) pa_nil)))), ?_⟩
  obtain ⟨dx, tv, na, fa, sa, h1, h2, h3, _⟩ := sh.1
  obtain ⟨md, ms, mh⟩ := good_has hg
  exact ⟨_, rfl, x, _, dx, _, _, rfl, h1, T.k_Shape, T.n_Shape_tree, lk2, g.tr, tv, rfl, h2, by omega, by omega, mh, q⟩
end
end Lx

namespace Pt
open PySem PySem.Spec PyProof.Rows L2 Ub Ur Ug Ue Up Uo Vk Ve
/-! ### paths by their words -/
def ptext : List Str → Str
  | [] => "."
  | w :: ws => down w (ptext ws)
def wfp : Tr → List (List Str × Tr)
  | .nil => []
  | .cons w t r => (([], t) :: wfp t).map (fun m => (w :: m.1, m.2)) ++ wfp r
def wpaths (t : Tr) : List (List Str × Tr) := ([], t) :: wfp t
theorem wfp_text : ∀ t : Tr, (wfp t).map (fun m => (ptext m.1, m.2)) = fp t
  | .nil => rfl
  | .cons w t r => by
    show ((([], t) :: wfp t).map (fun m => (w :: m.1, m.2)) ++ wfp r).map _ = ((("." : Str), t) :: fp t).map _ ++ fp r
    rw [List.map_append, wfp_text r, ← wfp_text t, List.map_cons, List.map_cons, List.map_cons, List.map_map, List.map_map]
    rfl
theorem wpaths_text (t : Tr) : (wpaths t).map (fun m => (ptext m.1, m.2)) = paths t := by
  show _ :: (wfp t).map _ = _
  rw [wfp_text]
  rfl
theorem wfp_words : ∀ {t : Tr}, W t → ∀ m ∈ wfp t, ∀ w ∈ m.1, isWord w = true
  | .nil, _, m, h, _, _ => nomatch h
  | .cons w t r, ⟨a, _, c, d⟩, m, h, z, hz => by
    rcases List.mem_append.mp h with h | h
    · obtain ⟨m', hm, rfl⟩ := List.mem_map.mp h
      rcases List.mem_cons.mp hz with e | hz
      · rw [e]; exact a
      · rcases List.mem_cons.mp hm with e | hm
        · rw [e] at hz; exact nomatch hz
        · exact wfp_words c m' hm z hz
    · exact wfp_words d m h z hz
theorem wpaths_words {t : Tr} (h : W t) : ∀ m ∈ wpaths t, ∀ w ∈ m.1, isWord w = true := fun m hm w hw => by
  rcases List.mem_cons.mp hm with e | hm
  · rw [e] at hw; exact nomatch hw
  · exact wfp_words h m hm w hw
theorem path_words {t : Tr} {z : Str} (h : z ∈ pks t) : ∃ m ∈ wpaths t, z = ptext m.1 := by
  obtain ⟨n, hn, rfl⟩ := List.mem_map.mp h
  rw [← wpaths_text] at hn
  obtain ⟨m, hm, rfl⟩ := List.mem_map.mp hn
  exact ⟨m, hm, rfl⟩
theorem words_path {t : Tr} {m : List Str × Tr} (h : m ∈ wpaths t) : (ptext m.1, m.2) ∈ paths t := by
  rw [← wpaths_text]
  exact List.mem_map.mpr ⟨m, h, rfl⟩
theorem sapp (a b c : Str) : a ++ b ++ c = a ++ (b ++ c) := cs_inj (by rw [cs_app, cs_app, cs_app, cs_app, List.append_assoc])
theorem sapp_nil (a : Str) : a ++ ("" : Str) = a := cs_inj (by rw [cs_app]; show cs a ++ [] = cs a; simp)
theorem ptext_join : ∀ {w : Str} {ws : List Str}, (∀ z ∈ ws, isWord z = true) → ptext (w :: ws) = ("." : Str) ++ Str.join "." (w :: ws)
  | w, [], _ => by
    show down w "." = ("." : Str) ++ w
    unfold down
    rw [if_pos rfl, sapp_nil]
  | w, v :: ws, h => by
    show down w (ptext (v :: ws)) = ("." : Str) ++ (w ++ "." ++ Str.join "." (v :: ws))
    have e : ptext (v :: ws) ≠ "." := down_ne (h v (List.mem_cons_self ..))
    unfold down
    rw [if_neg e, ptext_join fun z hz => h z (List.mem_cons_of_mem _ hz)]
    simp only [sapp]
theorem cut_dot (z : Str) : cutS (("." : Str) ++ z) (some 1) none = z := by
  apply cs_inj
  have e : cs (("." : Str) ++ z) = 46 :: cs z := by rw [cs_app, cs_dot]; rfl
  have l : (("." : Str) ++ z).length = z.length + 1 := by rw [len_app, dot_len]; omega
  unfold cutS
  show (((cs (("." : Str) ++ z)).drop (HT.sIx (("." : Str) ++ z).length 0 (some 1))).take _) = cs z
  rw [e, l, HT.sIx_none, show (some (1 : Int)) = some ((1 : Nat) : Int) from rfl, HT.sIx_nat, show min 1 (z.length + 1) = 1 by omega, List.drop_succ_cons, List.drop_zero, List.take_of_length_le]
  rw [cs_len]
  omega
theorem word_dot {z : Str} (h : isWord z = true) : 46 ∉ TL.tl z := fun c => by
  have := isWord_low h 46 c
  rw [let_dot] at this
  cases this
theorem words_split {w : Str} {ws : List Str} (h : ∀ z ∈ w :: ws, isWord z = true) : Txt.split (cutS (ptext (w :: ws)) (some 1) none) "." = w :: ws := by
  rw [ptext_join fun z hz => h z (List.mem_cons_of_mem _ hz), cut_dot, ← TL.join_eq]
  exact TL.split_join (s := 46) (S := []) (by decide +kernel) (by decide +kernel) (by simp) fun p hp => word_dot (h p hp)
theorem ptext_ne {w : Str} {ws : List Str} (h : isWord w = true) : ptext (w :: ws) ≠ "." := down_ne h
theorem ptext_len {t : Tr} (h : good t) {m : List Str × Tr} (hm : m ∈ wpaths t) : (ptext m.1).length ≤ 28 := (paths_good 3 (good_has h).1 h _ (words_path hm)).l
theorem wp_good {t : Tr} (h : good t) {m : List Str × Tr} (hm : m ∈ wpaths t) : good m.2 := (paths_good 3 (good_has h).1 h _ (words_path hm)).g
theorem wp_depth {t : Tr} (h : good t) : ∀ {m : List Str × Tr}, m ∈ wpaths t → m.2.depth + m.1.length ≤ t.depth := by
  have key : ∀ (d : Nat) (t : Tr), t.depth ≤ d → ∀ m ∈ wpaths t, m.2.depth + m.1.length ≤ t.depth := by
    have mem : ∀ {t : Tr} {m : List Str × Tr}, m ∈ wfp t → ∃ f ∈ t.fields, ∃ m' ∈ wpaths f.2, m = (f.1 :: m'.1, m'.2) := by
      intro t
      induction t with
      | nil => intro m h; exact nomatch h
      | cons w t r _ ih =>
        intro m h
        rcases List.mem_append.mp h with h | h
        · obtain ⟨m', hm, rfl⟩ := List.mem_map.mp h
          exact ⟨(w, t), List.mem_cons_self .., m', hm, rfl⟩
        · obtain ⟨f, hf, m', hm, e⟩ := ih h
          exact ⟨f, List.mem_cons_of_mem _ hf, m', hm, e⟩
    intro d
    induction d with
    | zero =>
      intro t hd m hm
      rcases List.mem_cons.mp hm with e | hm
      · rw [e]; exact Nat.le_refl _
      · obtain ⟨f, hf, _⟩ := mem hm
        have := Tr.depth_lt hf
        omega
    | succ d ih =>
      intro t hd m hm
      rcases List.mem_cons.mp hm with e | hm
      · rw [e]; exact Nat.le_refl _
      · obtain ⟨f, hf, m', hm', rfl⟩ := mem hm
        have hl := Tr.depth_lt hf
        have := ih f.2 (by omega) m' hm'
        show m'.2.depth + (m'.1.length + 1) ≤ t.depth
        omega
  exact fun {m} hm => key t.depth t (Nat.le_refl _) m hm
/-! ### parts: what stands in a cell; a part; all parts -/
inductive Cell where
  | int (i : Int)
  | part (p : Addr)
def Cell.v : Cell → V
  | .int i => .int i
  | .part p => .ref p
structure Nd where
  x : Addr
  g : Sg
  dx : Addr
  tk : Addr
  cd : Addr
  cs : List (Str × Cell)
abbrev Pg : Type := Addr → Option Nd
def kvs (l : List (Str × Cell)) : List (Key × V) := l.map fun c => (.inr c.1, c.2.v)
/-- a cell fits to a field's tree -/
def Fits (M : Pg) (t : Tr) : Cell → Prop
  | .int _ => t.isNil = true
  | .part p => t.isNil = false ∧ ∃ n, M p = some n ∧ n.g.tr = t
def CsOk (M : Pg) : List (Str × Tr) → List (Str × Cell) → Prop
  | [], [] => True
  | f :: l, c :: cs => c.1 = f.1 ∧ Fits M f.2 c.2 ∧ CsOk M l cs
  | [], _ :: _ => False
  | _ :: _, [] => False
/-- no dict of cells lies there -/
def NotCd (M : Pg) (b : Addr) : Prop := ∀ p n, M p = some n → n.cd ≠ b
structure Cp3 where
  part : Addr
  shape : Addr
  token : Addr
/-- where the things of shapes lie: Z, and no dict of cells -/
def Zm (Z : Addr → Prop) (M : Pg) (b : Addr) : Prop := Z b ∧ NotCd M b
structure NdOk (C : Cp3) (Z : Addr → Prop) (H : Hp) (M : Pg) (p : Addr) (n : Nd) : Prop where
  at_ : H p = some (.ins C.part n.dx [("shape", .ref n.x), ("token", .ref n.tk), ("cells", .ref n.cd)])
  cells : H n.cd = some (.dK (kvs n.cs))
  tok : ∃ d, H n.tk = some (.ins C.token d [])
  sh : ShG (Zm Z M) C.shape H n.x n.g
  gd : good n.g.tr
  rc : n.g.tr.isNil = false
  cs : CsOk M n.g.tr.fields n.cs
structure PgOk (C : Cp3) (Z : Addr → Prop) (H : Hp) (M : Pg) : Prop where
  nd : ∀ p n, M p = some n → NdOk C Z H M p n
  cdi : ∀ p q n m, M p = some n → M q = some m → n.cd = m.cd → p = q
  tki : ∀ p q n m, M p = some n → M q = some m → n.tk = m.tk → p = q
theorem pg_none {C : Cp3} {Z : Addr → Prop} {H : Hp} : PgOk C Z H (fun _ => none) := ⟨(fun _ _ h => nomatch h), (fun _ _ _ _ h => nomatch h), fun _ _ _ _ h => nomatch h⟩
/-- what is no list stays -/
def Kl (H H' : Hp) : Prop := ∀ b o, H b = some o → (∀ xs, o ≠ .lst xs) → H' b = some o
theorem Kl.of {H H' : Hp} (s : Same H H') : Kl H H' := fun b o e _ => s b o e
theorem Kl.refl (H : Hp) : Kl H H := fun _ _ e _ => e
theorem Kl.trans {H H1 H2 : Hp} (a : Kl H H1) (b : Kl H1 H2) : Kl H H2 := fun c o e n => b c o (a c o e n) n
theorem Kl.mut {H : Hp} {D : Addr} {xs : List V} {o : HO} (h : H D = some (.lst xs)) : Kl H (upd H D o) := fun b o' e n => by
  rw [upd_ne (fun z => by rw [z, h] at e; cases e; exact n _ rfl)]
  exact e
theorem Kl.kp {st g l : Addr} {H H' : Hp} (S : StAt H st g l) (k : Kp st g l H H') : Kl H H' := fun b o e n => by
  obtain ⟨⟨_, _, _, _, h1, h2, h3, _⟩, _⟩ := S
  refine k b _ e (fun z => ?_) (fun z => ?_) (fun z => ?_)
  · rw [z, h1] at e; cases e; exact n _ rfl
  · rw [z, h2] at e; cases e; exact n _ rfl
  · rw [z, h3] at e; cases e; exact n _ rfl
theorem Kl.kz {Z : Addr → Prop} {H H' : Hp} (k : Kl H H') : Kz Z H H' := fun b o e n _ => k b o e n
theorem Kl.tups {H H' : Hp} (k : Kl H H') : ∀ c xs, H c = some (.tup xs) → H' c = some (.tup xs) := fun c xs e => k c _ e (fun _ z => nomatch z)
theorem NdOk.kl {C : Cp3} {Z : Addr → Prop} {H H' : Hp} {M : Pg} {p : Addr} {n : Nd} (k : Kl H H') (h : NdOk C Z H M p n) : NdOk C Z H' M p n :=
  ⟨k _ _ h.at_ (fun _ z => nomatch z), k _ _ h.cells (fun _ z => nomatch z), h.tok.imp fun d e => k _ _ e (fun _ z => nomatch z), h.sh.kz k.kz, h.gd, h.rc, h.cs⟩
theorem PgOk.kl {C : Cp3} {Z : Addr → Prop} {H H' : Hp} {M : Pg} (k : Kl H H') (h : PgOk C Z H M) : PgOk C Z H' M := ⟨fun p n e => (h.nd p n e).kl k, h.cdi, h.tki⟩
theorem PgOk.same {C : Cp3} {Z : Addr → Prop} {H H' : Hp} {M : Pg} (s : Same H H') (h : PgOk C Z H M) : PgOk C Z H' M := h.kl (.of s)
/-! ### cells -/
theorem CsOk.words {M : Pg} : ∀ {l : List (Str × Tr)} {cs : List (Str × Cell)}, CsOk M l cs → cs.map (·.1) = l.map (·.1)
  | [], [], _ => rfl
  | f :: l, c :: cs, h => by rw [List.map_cons, List.map_cons, h.1, CsOk.words h.2.2]
  | [], _ :: _, h => h.elim
  | _ :: _, [], h => h.elim
theorem CsOk.len {M : Pg} {l : List (Str × Tr)} {cs : List (Str × Cell)} (h : CsOk M l cs) : cs.length = l.length := by
  have := congrArg List.length h.words
  rwa [List.length_map, List.length_map] at this
theorem CsOk.get {M : Pg} : ∀ {l : List (Str × Tr)} {cs : List (Str × Cell)} {i : Nat} {f : Str × Tr}, CsOk M l cs → l[i]? = some f → ∃ c, cs[i]? = some (f.1, c) ∧ Fits M f.2 c
  | f0 :: l, c :: cs, 0, f, h, e => by
    rw [List.getElem?_cons_zero] at e
    cases e
    exact ⟨c.2, by rw [List.getElem?_cons_zero, ← h.1], h.2.1⟩
  | _ :: l, _ :: cs, i + 1, f, h, e => by
    rw [List.getElem?_cons_succ] at e
    obtain ⟨c, h1, h2⟩ := CsOk.get h.2.2 e
    exact ⟨c, by rw [List.getElem?_cons_succ]; exact h1, h2⟩
  | [], _, _, _, _, e => by simp at e
  | _ :: _, [], _, _, h, _ => h.elim
theorem CsOk.mem {M : Pg} {l : List (Str × Tr)} {cs : List (Str × Cell)} (h : CsOk M l cs) {f : Str × Tr} (hf : f ∈ l) : ∃ c, (f.1, c) ∈ cs ∧ Fits M f.2 c := by
  obtain ⟨i, hi⟩ := List.getElem?_of_mem hf
  obtain ⟨c, h1, h2⟩ := h.get hi
  exact ⟨c, List.mem_of_getElem? h1, h2⟩
theorem CsOk.imp {M M' : Pg} (hm : ∀ t c, Fits M t c → Fits M' t c) : ∀ {l : List (Str × Tr)} {cs : List (Str × Cell)}, CsOk M l cs → CsOk M' l cs
  | [], [], _ => trivial
  | _ :: _, _ :: _, h => ⟨h.1, hm _ _ h.2.1, CsOk.imp hm h.2.2⟩
  | [], _ :: _, h => h.elim
  | _ :: _, [], h => h.elim
theorem kvs_val : ∀ {cs : List (Str × Cell)} {w : Str} {c : Cell}, (cs.map (·.1)).Nodup → (w, c) ∈ cs → valV (kvs cs) (.inr w) = some c.v
  | [], _, _, _, h => nomatch h
  | c0 :: cs, w, c, hn, h => by
    obtain ⟨a, b⟩ := List.nodup_cons.mp hn
    rcases List.mem_cons.mp h with e | h
    · rw [← e]; exact valV_pos rfl
    · show valV ((.inr c0.1, c0.2.v) :: kvs cs) (.inr w) = _
      rw [valV_neg, kvs_val b h]
      intro z
      exact a (List.mem_map.mpr ⟨(w, c), h, (Sum.inr.inj z).symm⟩)
theorem NdOk.nodup {C : Cp3} {Z : Addr → Prop} {H : Hp} {M : Pg} {p : Addr} {n : Nd} (h : NdOk C Z H M p n) : (n.cs.map (·.1)).Nodup := by
  rw [h.cs.words]
  exact (good_fields h.gd).2
/-- what a part has under a word -/
theorem NdOk.cell {C : Cp3} {Z : Addr → Prop} {H : Hp} {M : Pg} {p : Addr} {n : Nd} (h : NdOk C Z H M p n) {f : Str × Tr} (hf : f ∈ n.g.tr.fields) : ∃ c, (f.1, c) ∈ n.cs ∧ Fits M f.2 c ∧ DGet H n.cd (.str f.1) (some c.v) := by
  obtain ⟨c, h1, h2⟩ := h.cs.mem hf
  refine ⟨c, h1, h2, ?_⟩
  have := DGet.k (H := H) (a := n.cd) (k := .inr f.1) h.cells
  rw [kvs_val h.nodup h1] at this
  exact this
/-! ### the content -/
def cont (M : Pg) : Nat → Addr → List Int
  | 0, _ => []
  | d + 1, p => match M p with
    | none => []
    | some n => n.cs.flatMap fun c => match c.2 with
      | .int i => [i]
      | .part q => cont M d q
def cellC (M : Pg) (d : Nat) : Cell → List Int
  | .int i => [i]
  | .part q => cont M d q
theorem cont_eq {M : Pg} {d : Nat} {p : Addr} {n : Nd} (h : M p = some n) : cont M (d + 1) p = n.cs.flatMap fun c => cellC M d c.2 := by
  have e : cont M (d + 1) p = (match M p with | none => [] | some n => n.cs.flatMap fun c => cellC M d c.2) := rfl
  rw [e, h]
theorem flat_congr {α β : Type} {f g : α → List β} : ∀ {l : List α}, (∀ a ∈ l, f a = g a) → l.flatMap f = l.flatMap g
  | [], _ => rfl
  | a :: l, h => by
    rw [List.flatMap_cons, List.flatMap_cons, h a (List.mem_cons_self ..), flat_congr fun b hb => h b (List.mem_cons_of_mem _ hb)]
theorem CsOk.fits {M : Pg} : ∀ {l : List (Str × Tr)} {cs : List (Str × Cell)}, CsOk M l cs → ∀ c ∈ cs, ∃ f ∈ l, c.1 = f.1 ∧ Fits M f.2 c.2
  | [], [], _, c, h => nomatch h
  | f :: l, c0 :: cs, h, c, hc => by
    rcases List.mem_cons.mp hc with e | hc
    · rw [e]; exact ⟨f, List.mem_cons_self .., h.1, h.2.1⟩
    · obtain ⟨f', h1, h2⟩ := CsOk.fits h.2.2 c hc
      exact ⟨f', List.mem_cons_of_mem _ h1, h2⟩
  | [], _ :: _, h, _, _ => h.elim
  | _ :: _, [], h, _, _ => h.elim
theorem cont_up {C : Cp3} {Z : Addr → Prop} {H : Hp} {M : Pg} (h : PgOk C Z H M) : ∀ {d : Nat} {p : Addr} {n : Nd}, M p = some n → n.g.tr.depth ≤ d → cont M (d + 1) p = cont M d p
  | 0, p, n, e, hd => by
    have := (h.nd p n e).rc
    rw [depth0 (t := n.g.tr) (by omega)] at this
    cases this
  | d + 1, p, n, e, hd => by
    rw [cont_eq e, cont_eq e]
    refine flat_congr fun c hc => ?_
    obtain ⟨f, hf, _, hc2⟩ := (h.nd p n e).cs.fits c hc
    have hl := Tr.depth_lt hf
    cases ec : c.2 with
    | int i => rfl
    | part q =>
      rw [ec] at hc2
      obtain ⟨_, m, hm, et⟩ := hc2
      exact cont_up h hm (by rw [et]; omega)
abbrev content (M : Pg) (p : Addr) : List Int := cont M 4 p
theorem cont_at {C : Cp3} {Z : Addr → Prop} {H : Hp} {M : Pg} (h : PgOk C Z H M) {d : Nat} {p : Addr} {n : Nd} (e : M p = some n) (hd : n.g.tr.depth ≤ d) : ∀ k, cont M (d + k) p = cont M d p
  | 0 => rfl
  | k + 1 => by rw [← Nat.add_assoc, cont_up h e (by omega), cont_at h e hd k]
theorem content_eq {C : Cp3} {Z : Addr → Prop} {H : Hp} {M : Pg} (h : PgOk C Z H M) {p : Addr} {n : Nd} (e : M p = some n) : content M p = n.cs.flatMap fun c => cellC M 4 c.2 := by
  have d3 := (good_has (h.nd p n e).gd).1
  rw [← cont_eq e]
  exact (cont_at h e (show n.g.tr.depth ≤ 4 by omega) 1).symm
theorem cellC_len {C : Cp3} {Z : Addr → Prop} {H : Hp} {M : Pg} (h : PgOk C Z H M) : ∀ {d : Nat} {t : Tr} {c : Cell}, Fits M t c → t.depth ≤ d → (cellC M d c).length = t.plains
  | d, t, .int i, hf, _ => by
    have e : t = .nil := Tr.nil_of hf
    rw [e]
    rfl
  | 0, t, .part q, hf, hd => by
    have e : t = .nil := depth0 (by omega)
    rw [e] at hf
    cases hf.1
  | d + 1, t, .part q, hf, hd => by
    obtain ⟨hn, n, hq, et⟩ := hf
    show (cont M (d + 1) q).length = _
    rw [cont_eq hq]
    have cs := (h.nd q n hq).cs
    rw [et] at cs
    have e2 : t.plains = (t.fields.map fun p => p.2.plains).sum := by
      rw [← Tr.spla_eq]
      unfold Tr.plains
      rw [hn]
      rfl
    rw [e2]
    have key : ∀ {l : List (Str × Tr)} {cs : List (Str × Cell)}, CsOk M l cs → (∀ f ∈ l, f.2.depth ≤ d) → (cs.flatMap fun c => cellC M d c.2).length = (l.map fun p => p.2.plains).sum := by
      intro l
      induction l with
      | nil =>
        intro cs hcs _
        cases cs with
        | nil => rfl
        | cons _ _ => exact hcs.elim
      | cons f l ih =>
        intro cs hcs hl
        cases cs with
        | nil => exact hcs.elim
        | cons c cs =>
          rw [List.flatMap_cons, List.length_append, ih hcs.2.2 fun g hg => hl g (List.mem_cons_of_mem _ hg), List.map_cons, List.sum_cons, cellC_len h hcs.2.1 (hl f (List.mem_cons_self ..))]
    exact key cs fun f hf => by have := Tr.depth_lt hf; omega
theorem content_len {C : Cp3} {Z : Addr → Prop} {H : Hp} {M : Pg} (h : PgOk C Z H M) {p : Addr} {n : Nd} (e : M p = some n) : (content M p).length = n.g.tr.plains :=
  cellC_len h (d := 4) (c := .part p) ⟨(h.nd p n e).rc, n, e, rfl⟩ (by have := (good_has (h.nd p n e).gd).1; omega)
/-! ### what stands at a path -/
def walk (M : Pg) (c : Cell) : List Str → Option Cell
  | [] => some c
  | w :: ws => match c with
    | .int _ => none
    | .part p => match M p with
      | none => none
      | some n => match n.cs.lookup w with
        | none => none
        | some c' => walk M c' ws
theorem lookup_at : ∀ {cs : List (Str × Cell)} {w : Str} {c : Cell}, (cs.map (·.1)).Nodup → (w, c) ∈ cs → cs.lookup w = some c
  | [], _, _, _, h => nomatch h
  | (w0, c0) :: cs, w, c, hn, h => by
    obtain ⟨a, b⟩ := List.nodup_cons.mp hn
    rcases List.mem_cons.mp h with e | h
    · cases e
      simp [List.lookup]
    · have ne : w ≠ w0 := fun z => a (List.mem_map.mpr ⟨(w, c), h, z⟩)
      have : (w == w0) = false := beq_eq_false_iff_ne.mpr ne
      rw [List.lookup, this]
      exact lookup_at b h
theorem walk_ok {C : Cp3} {Z : Addr → Prop} {H : Hp} {M : Pg} (h : PgOk C Z H M) : ∀ {t : Tr} {c : Cell}, Fits M t c → ∀ m ∈ wpaths t, ∃ c', walk M c m.1 = some c' ∧ Fits M m.2 c' := by
  have mem : ∀ {t : Tr} {m : List Str × Tr}, m ∈ wfp t → ∃ f ∈ t.fields, ∃ m' ∈ wpaths f.2, m = (f.1 :: m'.1, m'.2) := by
    intro t
    induction t with
    | nil => intro m h; exact nomatch h
    | cons w t r _ ih =>
      intro m h
      rcases List.mem_append.mp h with h | h
      · obtain ⟨m', hm, rfl⟩ := List.mem_map.mp h
        exact ⟨(w, t), List.mem_cons_self .., m', hm, rfl⟩
      · obtain ⟨f, hf, m', hm, e⟩ := ih h
        exact ⟨f, List.mem_cons_of_mem _ hf, m', hm, e⟩
  have key : ∀ (d : Nat) (t : Tr) (c : Cell), t.depth ≤ d → Fits M t c → ∀ m ∈ wpaths t, ∃ c', walk M c m.1 = some c' ∧ Fits M m.2 c' := by
    intro d
    induction d with
    | zero =>
      intro t c hd hf m hm
      rcases List.mem_cons.mp hm with e | hm
      · rw [e]; exact ⟨c, rfl, hf⟩
      · obtain ⟨f, hf, _⟩ := mem hm
        have := Tr.depth_lt hf
        omega
    | succ d ih =>
      intro t c hd hf m hm
      rcases List.mem_cons.mp hm with e | hm
      · rw [e]; exact ⟨c, rfl, hf⟩
      · obtain ⟨f, hff, m', hm', rfl⟩ := mem hm
        have hl := Tr.depth_lt hff
        cases c with
        | int i =>
          have e : t = .nil := Tr.nil_of hf
          rw [e] at hff
          exact nomatch hff
        | part p =>
          obtain ⟨hn, n, hp, et⟩ := hf
          rw [← et] at hff
          obtain ⟨c2, k1, k2⟩ := (h.nd p n hp).cs.mem hff
          obtain ⟨c', w1, w2⟩ := ih f.2 c2 (by rw [et] at hff; omega) k2 m' hm'
          refine ⟨c', ?_, w2⟩
          show (match M p with | none => none | some n => match n.cs.lookup f.1 with | none => none | some c' => walk M c' m'.1) = _
          rw [hp]
          show (match n.cs.lookup f.1 with | none => none | some c' => walk M c' m'.1) = _
          rw [lookup_at (h.nd p n hp).nodup k1]
          exact w1
  exact fun {t c} hf => key t.depth t c (Nat.le_refl _) hf
/-! ### more parts -/
theorem Fits.mono {M M' : Pg} (old : ∀ p n, M p = some n → M' p = some n) : ∀ {t : Tr} {c : Cell}, Fits M t c → Fits M' t c
  | _, .int _, h => h
  | _, .part _, ⟨h1, n, h2, h3⟩ => ⟨h1, n, old _ _ h2, h3⟩
theorem cont_mono {C : Cp3} {Z : Addr → Prop} {H : Hp} {M M' : Pg} (h : PgOk C Z H M) (old : ∀ p n, M p = some n → M' p = some n) : ∀ (d : Nat) {p : Addr} {n : Nd}, M p = some n → cont M' d p = cont M d p
  | 0, _, _, _ => rfl
  | d + 1, p, n, e => by
    rw [cont_eq e, cont_eq (old _ _ e)]
    refine flat_congr fun c hc => ?_
    obtain ⟨f, hf, _, hc2⟩ := (h.nd p n e).cs.fits c hc
    cases ec : c.2 with
    | int i => rfl
    | part q =>
      rw [ec] at hc2
      obtain ⟨_, m, hm, et⟩ := hc2
      exact cont_mono h old d hm
theorem cellC_mono {C : Cp3} {Z : Addr → Prop} {H : Hp} {M M' : Pg} (h : PgOk C Z H M) (old : ∀ p n, M p = some n → M' p = some n) {d : Nat} {t : Tr} : ∀ {c : Cell}, Fits M t c → cellC M' d c = cellC M d c
  | .int _, _ => rfl
  | .part _, ⟨_, _, h2, _⟩ => cont_mono h old d h2
/-- the parts below, in order -/
def nodes (M : Pg) : Nat → Addr → List Addr
  | 0, _ => []
  | d + 1, p => p :: (match M p with
    | none => []
    | some n => n.cs.flatMap fun c => match c.2 with
      | .int _ => []
      | .part q => nodes M d q)
def cellN (M : Pg) (d : Nat) : Cell → List Addr
  | .int _ => []
  | .part q => nodes M d q
theorem nodes_eq {M : Pg} {d : Nat} {p : Addr} {n : Nd} (h : M p = some n) : nodes M (d + 1) p = p :: n.cs.flatMap fun c => cellN M d c.2 := by
  have e : nodes M (d + 1) p = p :: (match M p with | none => [] | some n => n.cs.flatMap fun c => cellN M d c.2) := rfl
  rw [e, h]
theorem nodes_up {C : Cp3} {Z : Addr → Prop} {H : Hp} {M : Pg} (h : PgOk C Z H M) : ∀ {d : Nat} {p : Addr} {n : Nd}, M p = some n → n.g.tr.depth ≤ d → nodes M (d + 1) p = nodes M d p
  | 0, p, n, e, hd => by
    have := (h.nd p n e).rc
    rw [depth0 (t := n.g.tr) (by omega)] at this
    cases this
  | d + 1, p, n, e, hd => by
    rw [nodes_eq e, nodes_eq e]
    refine congrArg _ (flat_congr fun c hc => ?_)
    obtain ⟨f, hf, _, hc2⟩ := (h.nd p n e).cs.fits c hc
    have hl := Tr.depth_lt hf
    cases ec : c.2 with
    | int i => rfl
    | part q =>
      rw [ec] at hc2
      obtain ⟨_, m, hm, et⟩ := hc2
      exact nodes_up h hm (by rw [et]; omega)
theorem nodes_mono {C : Cp3} {Z : Addr → Prop} {H : Hp} {M M' : Pg} (h : PgOk C Z H M) (old : ∀ p n, M p = some n → M' p = some n) : ∀ (d : Nat) {p : Addr} {n : Nd}, M p = some n → nodes M' d p = nodes M d p
  | 0, _, _, _ => rfl
  | d + 1, p, n, e => by
    rw [nodes_eq e, nodes_eq (old _ _ e)]
    refine congrArg _ (flat_congr fun c hc => ?_)
    obtain ⟨f, hf, _, hc2⟩ := (h.nd p n e).cs.fits c hc
    cases ec : c.2 with
    | int i => rfl
    | part q =>
      rw [ec] at hc2
      obtain ⟨_, m, hm, et⟩ := hc2
      exact nodes_mono h old d hm
theorem cellN_mono {C : Cp3} {Z : Addr → Prop} {H : Hp} {M M' : Pg} (h : PgOk C Z H M) (old : ∀ p n, M p = some n → M' p = some n) {d : Nat} {t : Tr} : ∀ {c : Cell}, Fits M t c → cellN M' d c = cellN M d c
  | .int _, _ => rfl
  | .part _, ⟨_, _, h2, _⟩ => nodes_mono h old d h2
/-- a new part, a tree: H0 the heap of the call -/
structure Made (C : Cp3) (Z : Addr → Prop) (H0 H' : Hp) (M M' : Pg) (x sx : Addr) (g : Sg) (is : List Int) : Prop where
  ok : PgOk C Z H' M'
  at_ : ∃ n, M' x = some n ∧ n.x = sx ∧ n.g = g
  old : ∀ p n, M p = some n → M' p = some n
  new : ∀ p n, M' p = some n → M p = some n ∨ (H0 p = none ∧ H0 n.cd = none ∧ H0 n.tk = none)
  same : Same H0 H'
  con : content M' x = is
  nd : (nodes M' 4 x).Nodup
  frs : ∀ p ∈ nodes M' 4 x, H0 p = none
theorem Made.zm {C : Cp3} {Z : Addr → Prop} {H0 H' : Hp} {M M' : Pg} {x sx : Addr} {g : Sg} {is : List Int} (h : Made C Z H0 H' M M' x sx g is) : ∀ b, Zm Z M b → H0 b ≠ none → Zm Z M' b := fun b hb hn => ⟨hb.1, fun p n e z => by
  rcases h.new p n e with e | ⟨_, e, _⟩
  · exact hb.2 p n e z
  · rw [z] at e; exact hn e⟩
/-- a shape beside it stays -/
theorem Made.shape {C : Cp3} {Z : Addr → Prop} {H0 H' : Hp} {M M' : Pg} {x sx : Addr} {g : Sg} {is : List Int} (h : Made C Z H0 H' M M' x sx g is) {y : Addr} {f : Sg} {D : Addr} (s : ShG (Zm Z M) D H0 y f) : ShG (Zm Z M') D H' y f := (s.imp h.zm).kz (kz_of h.same)
theorem PgOk.zimp {C : Cp3} {Z Z' : Addr → Prop} {H : Hp} {M : Pg} (i : ∀ b, Z b → H b ≠ none → Z' b) (h : PgOk C Z H M) : PgOk C Z' H M :=
  ⟨fun p n e => { h.nd p n e with sh := (h.nd p n e).sh.imp fun b z hb => ⟨i b z.1 hb, z.2⟩ }, h.cdi, h.tki⟩
/-! ### the fields of a shape -/
theorem ShL.field {Z : Addr → Prop} {D : Addr} {H : Hp} : ∀ {g : Sg} {i : Nat} {m : Str × Tr}, ShL Z D H g → g.tr.fields[i]? = some m → (g.tr.fields.map (·.1)).Nodup → ∃ p s, valV g.dict (.inr m.1) = some (.ref p) ∧ ShG Z D H p s ∧ s.tr = m.2
  | .nil, i, m, _, e, _ => by cases e
  | .cons w p s r, 0, m, h, e, _ => by
    have e2 : (w, s.tr) = m := Option.some.inj e
    subst e2
    exact ⟨p, s, valV_pos rfl, ⟨h.1, h.2.1⟩, rfl⟩
  | .cons w p s r, i + 1, m, h, e, hn => by
    have e : r.tr.fields[i]? = some m := e
    obtain ⟨a, b⟩ := List.nodup_cons.mp (show (w :: r.tr.fields.map (·.1)).Nodup from hn)
    obtain ⟨p', s', h1, h2, h3⟩ := ShL.field h.2.2 e b
    refine ⟨p', s', ?_, h2, h3⟩
    show valV ((.inr w, .ref p) :: r.dict) (.inr m.1) = _
    rw [valV_neg (fun z => a (List.mem_map.mpr ⟨m, List.mem_of_getElem? e, (Sum.inr.inj z).symm⟩)), h1]
end Pt

namespace Pt
open PySem PySem.Spec PyProof.Rows L2 Ub Ur Ug Ue Up Uo Vk Ve Wb
/-! ### promises of the program's words about parts -/
def sp_words : Sp := fun vs H Q _ => ∃ ws : List Str, vs = [.str (ptext ws)] ∧ (∀ z ∈ ws, isWord z = true) ∧ (ptext ws).length ≤ 1000 ∧ ∀ D H', Same H H' → H D = none → H' D = some (.lst (ws.map V.str)) → Q (.ref D) H'
def isIntD : PyData → Bool
  | .int _ => true
  | _ => false
def sp_isw (K : PySem.W.Frag) (Cp : Addr) : Sp := fun vs H Q _ => ∃ v, vs = [v] ∧ ((∃ d, DtV [] H v d ∧ Q (.bl (isIntD d)) H) ∨ (TyX K H v (.ref Cp) ∧ Q (.bl false) H))
def wholesD (d : PyData) (n : Nat) : Bool := match d with
  | .tuple ds => decide (ds.length = n) && ds.all isIntD
  | _ => false
def sp_wholes : Sp := fun vs H Q _ => ∃ (v : V) (d : PyData) (n : Nat), vs = [v, .int (n : Nat)] ∧ DtV [] H v d ∧ (∀ ds, d = .tuple ds → ds.length ≤ 1000) ∧ ∀ H', Same H H' → Q (.bl (wholesD d n)) H'
theorem wholesD_tup {d : PyData} {n : Nat} (h : isTup d = false) : wholesD d n = false := by cases d <;> first | rfl | cases h
def intsD (is : List Int) : PyData := .tuple (is.map PyData.int)
theorem dtvs_int {N : List Addr} {H : Hp} : ∀ is : List Int, DtVs N H (is.map V.int) (is.map PyData.int)
  | [] => .nil
  | i :: is => .cons (.int i) (dtvs_int is)
theorem wholesD_ints (is : List Int) : wholesD (intsD is) is.length = true := by
  show (decide ((is.map PyData.int).length = is.length) && (is.map PyData.int).all isIntD) = true
  rw [List.length_map, decide_eq_true rfl, List.all_map]
  simp [isIntD]
theorem wholesD_out {d : PyData} {n : Nat} (h : wholesD d n = true) : ∃ is : List Int, d = intsD is ∧ is.length = n := by
  cases d with
  | tuple ds =>
    obtain ⟨h1, h2⟩ := Bool.and_eq_true_iff.mp (show (decide (ds.length = n) && ds.all isIntD) = true from h)
    have key : ∀ {ds : List PyData}, ds.all isIntD = true → ∃ is : List Int, ds = is.map PyData.int := by
      intro ds
      induction ds with
      | nil => exact fun _ => ⟨[], rfl⟩
      | cons d ds ih =>
        intro h
        rw [List.all_cons, Bool.and_eq_true] at h
        obtain ⟨is, e⟩ := ih h.2
        cases d with
        | int i => exact ⟨i :: is, by rw [e]; rfl⟩
        | _ => cases h.1
    obtain ⟨is, e⟩ := key h2
    refine ⟨is, by rw [e]; rfl, ?_⟩
    have := of_decide_eq_true h1
    rw [e, List.length_map] at this
    exact this
  | _ => cases h
/-- a new part -/
def sp_part (C : Cp3) (B : Addr) (d : Nat) : Sp := fun vs H Q E => ∃ H0 Z M x dx sx g v, vs = [.ref x, .ref sx, v, .non] ∧ H = upd (upd H0 dx (.own x)) x (.ins C.part dx []) ∧ H0 x = none ∧ H0 dx = none ∧ dx ≠ x ∧ PgOk C Z H0 M ∧ ShG (Zm Z M) C.shape H0 sx g ∧ good g.tr ∧ g.tr.isNil = false ∧ g.tr.depth < d ∧
  ((∃ a is, v = .ref a ∧ H0 a = some (.tup (is.map V.int)) ∧ is.length = g.tr.plains ∧ ∀ M' H', Made C Z H0 H' M M' x sx g is → Q .non H') ∨
   (∃ dt, DtV [] H0 v dt ∧ (∀ ds, dt = .tuple ds → ds.length ≤ 1000) ∧ wholesD dt g.tr.plains = false ∧ ∀ e H', Same H0 H' → H0 e = none → H' e = some (.xd [("given", v)]) → E (.ref B) (some e) H'))
def sp_pcont (C : Cp3) (d : Nat) : Sp := fun vs H Q _ => ∃ Z M p n, vs = [.ref p] ∧ PgOk C Z H M ∧ M p = some n ∧ n.g.tr.depth < d ∧ ∀ D H', Same H H' → H D = none → H' D = some (.tup ((content M p).map V.int)) → Q (.ref D) H'
def sp_pcon (K : PySem.W.Frag) (C : Cp3) : Sp := fun vs H Q _ => ∃ Z M p n y, vs = [.ref p, y] ∧ PgOk C Z H M ∧ M p = some n ∧ ((∃ z : Str, y = .str z ∧ Q (.bl (decide (z ∈ pks n.g.tr))) H) ∨ (NotStr K H y ∧ Q (.bl false) H))
def sp_pget (K : PySem.W.Frag) (C : Cp3) (B : Addr) : Sp := fun vs H Q E => ∃ Z M p n y, vs = [.ref p, y] ∧ PgOk C Z H M ∧ M p = some n ∧
  ((∃ m ∈ wpaths n.g.tr, y = .str (ptext m.1) ∧ ∀ c H', walk M (.part p) m.1 = some c → Fits M m.2 c → Same H H' → Q c.v H') ∨ (NoP K H n.g.tr y ∧ ∀ e H', Same H H' → H e = none → H' e = some (.xd [("path", y)]) → E (.ref B) (some e) H'))
/-! ### a cell set -/
def putC (cs : List (Str × Cell)) (w : Str) (c : Cell) : List (Str × Cell) := cs.map fun m => if m.1 = w then (m.1, c) else m
def setN (M : Pg) (q : Addr) (w : Str) (c : Cell) : Pg := fun r => if r = q then (M q).map fun n => { n with cs := putC n.cs w c } else M r
theorem putC_words (cs : List (Str × Cell)) (w : Str) (c : Cell) : (putC cs w c).map (·.1) = cs.map (·.1) := by
  unfold putC
  rw [List.map_map]
  apply List.map_congr_left
  intro m _
  show (if m.1 = w then (m.1, c) else m).1 = m.1
  split <;> rfl
theorem kvs_put {cs : List (Str × Cell)} {w : Str} {c : Cell} (h : w ∈ cs.map (·.1)) : putK (kvs cs) (.inr w) c.v = kvs (putC cs w c) := by
  unfold putK
  rw [if_pos]
  · unfold kvs putC
    rw [List.map_map, List.map_map]
    apply List.map_congr_left
    intro m _
    show (if (Sum.inr m.1 : Key) = .inr w then ((Sum.inr m.1 : Key), c.v) else (.inr m.1, m.2.v)) = (.inr (if m.1 = w then (m.1, c) else m).1, (if m.1 = w then (m.1, c) else m).2.v)
    by_cases e : m.1 = w
    · rw [if_pos (by rw [e]), if_pos e]
    · rw [if_neg (fun z => e (Sum.inr.inj z)), if_neg e]
  · obtain ⟨m, hm, e⟩ := List.mem_map.mp h
    exact List.any_eq_true.mpr ⟨(.inr m.1, m.2.v), List.mem_map.mpr ⟨m, hm, rfl⟩, by simpa using e⟩
theorem setN_tr {M : Pg} {q : Addr} {w : Str} {c : Cell} {p : Addr} {n : Nd} (h : setN M q w c p = some n) : ∃ m, M p = some m ∧ n.x = m.x ∧ n.g = m.g ∧ n.dx = m.dx ∧ n.tk = m.tk ∧ n.cd = m.cd ∧ n.cs = (if p = q then putC m.cs w c else m.cs) := by
  unfold setN at h
  by_cases e : p = q
  · rw [if_pos e] at h
    obtain ⟨m, h1, h2⟩ := Option.map_eq_some_iff.mp h
    rw [← h2]
    exact ⟨m, by rw [e]; exact h1, rfl, rfl, rfl, rfl, rfl, by rw [if_pos e]⟩
  · rw [if_neg e] at h
    exact ⟨n, h, rfl, rfl, rfl, rfl, rfl, by rw [if_neg e]⟩
theorem setN_of {M : Pg} {q : Addr} {w : Str} {c : Cell} {p : Addr} {m : Nd} (h : M p = some m) : ∃ n, setN M q w c p = some n ∧ n.g = m.g ∧ n.x = m.x ∧ n.cd = m.cd ∧ n.tk = m.tk := by
  unfold setN
  by_cases e : p = q
  · rw [if_pos e, ← e, h]
    exact ⟨_, rfl, rfl, rfl, rfl, rfl⟩
  · rw [if_neg e]
    exact ⟨m, h, rfl, rfl, rfl, rfl⟩
theorem setN_fits {M : Pg} {q : Addr} {w : Str} {c : Cell} : ∀ {t : Tr} {b : Cell}, Fits M t b → Fits (setN M q w c) t b
  | _, .int _, h => h
  | _, .part _, ⟨h1, n, h2, h3⟩ => by
    obtain ⟨n', k1, k2, _⟩ := setN_of (q := q) (w := w) (c := c) h2
    exact ⟨h1, n', k1, by rw [k2]; exact h3⟩
theorem setN_cd {M : Pg} {q : Addr} {w : Str} {c : Cell} {b : Addr} (h : NotCd M b) : NotCd (setN M q w c) b := fun p n e => by
  obtain ⟨m, h1, _, _, _, _, h2, _⟩ := setN_tr e
  rw [h2]
  exact h p m h1
theorem CsOk.put {M : Pg} {w : Str} {c : Cell} {t : Tr} : ∀ {l : List (Str × Tr)} {cs : List (Str × Cell)}, CsOk M l cs → (l.map (·.1)).Nodup → (w, t) ∈ l → Fits M t c → CsOk M l (putC cs w c)
  | [], _, _, _, h, _ => nomatch h
  | f :: l, c0 :: cs, h, hn, hm, hf => by
    obtain ⟨a, b⟩ := List.nodup_cons.mp hn
    have e : putC (c0 :: cs) w c = (if c0.1 = w then (c0.1, c) else c0) :: putC cs w c := rfl
    rw [e]
    rcases List.mem_cons.mp hm with e1 | hm
    · have ew : c0.1 = w := by rw [h.1, ← e1]
      rw [if_pos ew]
      refine ⟨h.1, by rw [← e1]; exact hf, ?_⟩
      have no : putC cs w c = cs := by
        have hw : w ∉ cs.map (·.1) := by rw [h.2.2.words, ← ew, h.1]; exact a
        unfold putC
        conv => rhs; rw [← List.map_id cs]
        apply List.map_congr_left
        intro m hm
        exact if_neg fun z => hw (List.mem_map.mpr ⟨m, hm, z⟩)
      rw [no]
      exact h.2.2
    · have ew : c0.1 ≠ w := fun z => a (List.mem_map.mpr ⟨(w, t), hm, (show w = f.1 by rw [← h.1]; exact z.symm)⟩)
      rw [if_neg ew]
      exact ⟨h.1, h.2.1, CsOk.put h.2.2 b hm hf⟩
  | _ :: _, [], h, _, _, _ => h.elim
/-- the heap behind it -/
theorem PgOk.set {C : Cp3} {Z : Addr → Prop} {H : Hp} {M : Pg} (h : PgOk C Z H M) {q : Addr} {n : Nd} {w : Str} {t : Tr} {c : Cell} (hq : M q = some n) (hw : (w, t) ∈ n.g.tr.fields) (hc : Fits M t c) :
    PgOk C Z (upd H n.cd (.dK (putK (kvs n.cs) (.inr w) c.v))) (setN M q w c) := by
  have N := h.nd q n hq
  have hw2 : w ∈ n.cs.map (·.1) := by rw [N.cs.words]; exact List.mem_map.mpr ⟨_, hw, rfl⟩
  have hcd : H n.cd = some (.dK (kvs n.cs)) := N.cells
  have ne : ∀ {b : Addr} {o : HO}, H b = some o → (∀ l, o ≠ .dK l) → (upd H n.cd (.dK (putK (kvs n.cs) (.inr w) c.v))) b = some o := fun {b o} e hn => by
    rw [upd_ne (fun z => by rw [z, hcd] at e; cases e; exact hn _ rfl)]
    exact e
  refine ⟨fun p n' e => ?_, fun p r a b e1 e2 e3 => ?_, fun p r a b e1 e2 e3 => ?_⟩
  · obtain ⟨m, h1, e1, e2, e3, e4, e5, e6⟩ := setN_tr e
    have Nm := h.nd p m h1
    refine ⟨?_, ?_, ?_, ?_, by rw [e2]; exact Nm.gd, by rw [e2]; exact Nm.rc, ?_⟩
    · rw [e1, e3, e4, e5]
      exact ne Nm.at_ (fun _ z => nomatch z)
    · rw [e5, e6]
      by_cases ep : p = q
      · rw [if_pos ep]
        rw [ep, hq] at h1
        cases h1
        rw [upd_same, kvs_put hw2]
      · rw [if_neg ep, upd_ne (fun z => ep (h.cdi _ _ _ _ h1 hq z))]
        exact Nm.cells
    · rw [e4]
      exact Nm.tok.imp fun d k => ne k (fun _ z => nomatch z)
    · rw [e1, e2]
      refine (Nm.sh.imp fun b z _ => (⟨z.1, setN_cd z.2⟩ : Zm Z (setN M q w c) b)).kz fun b o k hn z => ?_
      rcases z with z | ⟨xs, z⟩
      · rw [upd_ne (fun y => by
          obtain ⟨n2, k1, _, _, k4, _⟩ := setN_of (q := q) (w := w) (c := c) hq
          exact z.2 q n2 k1 (by rw [k4, y]))]
        exact k
      · rw [z] at k ⊢
        exact ne k (fun _ y => nomatch y)
    · rw [e2, e6]
      have cm := Nm.cs.imp fun t b => setN_fits (q := q) (w := w) (c := c) (t := t) (b := b)
      by_cases ep : p = q
      · rw [if_pos ep]
        rw [ep, hq] at h1
        cases h1
        exact cm.put (good_fields N.gd).2 hw (setN_fits hc)
      · rw [if_neg ep]
        exact cm
  · obtain ⟨m1, k1, _, _, _, _, k2, _⟩ := setN_tr e1
    obtain ⟨m2, k3, _, _, _, _, k4, _⟩ := setN_tr e2
    exact h.cdi _ _ _ _ k1 k3 (by rw [← k2, e3, k4])
  · obtain ⟨m1, k1, _, _, _, k2, _⟩ := setN_tr e1
    obtain ⟨m2, k3, _, _, _, k4, _⟩ := setN_tr e2
    exact h.tki _ _ _ _ k1 k3 (by rw [← k2, e3, k4])
end Pt

namespace Pt
open PySem PySem.Spec PyProof.Rows L2 Ub Ur Ug Ue Up Uo Vk Ve Wb
open AutoSeq1
/-! ### list.extend(tuple) -/
theorem ext_tup (la : Addr) (is : Array Value) (k : Nat) (tb : Addr) (js : Array Value) (k2 : Nat) (dd : Option Addr) (sl : Array (Option Value)) (h0 : ¬(!is.isEmpty && Builtin.List.listTooLong (is.size + js.size)) = true) (h1 : is.size ≤ sizeLine) (h2 : is.size + js.size ≤ sizeLine + 1) :
    Meets (Builtin.«list.extend» ⟨[.ref la, .ref tb], []⟩) (fun _ R q => q.heap.get? la = some { cls := .type "list", dict := none, data := .seq is k, slots := #[] } ∧ q.heap.get? tb = some { cls := .type "tuple", dict := dd, data := .seq js k2, slots := sl } ∧
      R (.ok (.ret Value.none)) { q with heap := q.heap.update la (Obj.mapSeq fun x => x ++ js), toks := q.toks }) :=
  .of_wp fun prog w A R q z => by
    obtain ⟨hp, gn, dr, tk, os⟩ := q
    obtain ⟨hl, hb, z⟩ := z
    have i1 := idx_int
    have i2 := AutoSeq1.sub_tuple_tuple
    have i3 := AutoSeq1.sub_list_list
    have i4 := AutoSeq1.sub_tuple_list
    have i5 := AutoSeq1.sub_list_tuple
    have hz : (is ++ js).size ≤ sizeLine + 1 := by rw [Array.size_append]; exact h2
    wp_walk using (wpAny_updateSeq hl rfl (hz := h1) (_hz' := hz)), wpAny_loadPart' hl, wpAny_loadPart' hb
    exact ⟨_, rfl, z⟩
def rExtT : V → List V → Hp → VK → Prop := fun x vs H Q => ∃ l b xs zs, x = .ref l ∧ vs = [.ref b] ∧ H l = some (.lst xs) ∧ H b = some (.tup zs) ∧ xs.length + zs.length ≤ sizeLine ∧ Q .non (upd H l (.lst (xs ++ zs)))
theorem mt_extT {X : Cx} : MtM X "list.extend" rExtT := by
  intro pins s σ H x vs v us Q I rx rv h
  obtain ⟨l, b, xs, zs, rfl, rfl, hH, hB, hz, q⟩ := h
  cases rx
  obtain ⟨u, rfl, ru⟩ := rv.one
  cases ru
  obtain ⟨z, its, n, r, hl, e⟩ := I.lstM hH
  obtain ⟨_, its2, r2, ob, hg, hc, n2, hd⟩ : ObjOk X.prog X.w H s.heap b (.tup zs) := I.hok b _ hB
  obtain ⟨oc, od, dt, sl⟩ := ob
  simp only at hc hd
  subst hc hd
  have l1 := r.length
  have l2 := r2.length
  have sz : its.toArray.size + its2.toArray.size ≤ sizeLine := by
    rw [List.size_toArray, List.size_toArray]
    omega
  have lg : ¬ (!its.toArray.isEmpty && Builtin.List.listTooLong (its.toArray.size + its2.toArray.size)) = true := by
    rw [notLongL sz, Bool.and_false]
    exact Bool.false_ne_true
  refine call_meets F.slot_list_extend ⟨_, e, rfl⟩ F.entry_list_extend (F.args_list_extend_2 _ _) (ext_tup l its.toArray n b its2.toArray n2 od sl lg (by rw [List.size_toArray]; omega) (by omega)) ⟨e, hg, ?_⟩
  exact ⟨.non, _, I.lset (its' := its ++ its2) hH e (by simp) (r.append r2) (by rw [List.length_append]; omega), rfl, q⟩
end Pt

namespace Lx
open PySem PySem.Spec PyProof.Rows L2 Ub Ur Ug Ue Up Uo Ve Va Vk Wb Pt
section
variable {P : Program} {w : World} {K : PySem.W.Frag} {mg : Str → Option Value} {base : Heap}
abbrev C3 (K : PySem.W.Frag) : Cp3 := ⟨He.ga K "Part", He.ga K "Shape", He.ga K "Token"⟩
theorem sc_words_of : FnScope ["path"] ["path"] (defScope s_words_of) := ⟨rfl, rfl, rfl, by decide +kernel, rfl, by decide +kernel, by decide +kernel⟩
theorem ok_words_of {fd : FuncData} (F : Df K ("words_of", none) "words_of" "words_of" s_words_of [] fd) (T : Tx K mg) : FnOk P w K mg base CX0 1 (He.ga K "words_of") fd ["path"] sp_words := by
  refine F.ok sc_words_of (fun vs H Q E h => by obtain ⟨ws, rfl, _⟩ := h; rfl) (fun cdv A outer s H vs Q E hr h => ?_)
  obtain ⟨ws, rfl, hw, hl, q⟩ := h
  refine ⟨_, PSs.nox (pss_cons (ps_if (pt_cmpR op_eq (pv 0) pe_str (nomark _))
        (pss_one (ps_ret (pe_lst pa_nil)))
        pss_nil)
      (pss_one (ps_ret (pe_split (pe_slice sl_str (pv 0) (po_some pe_int) po_none) pe_str)))), ?_⟩
  cases ws with
  | nil =>
    refine ⟨_, rfl, rfl, _, rfl, iteY rfl ?_⟩
    exact ⟨Nat.zero_le _, fun D nD => q D _ (same_upd nD) nD upd_same⟩
  | cons z ws =>
    refine ⟨_, rfl, rfl, _, rfl, iteN (fun e => ptext_ne (hw z (List.mem_cons_self ..)) (V.str.inj e)) ?_⟩
    refine ⟨_, rfl, 1, rfl, _, rfl, sz4 (by omega), ⟨_, rfl⟩, _, ".", rfl, rfl, by decide +kernel, ?_, fun D nD => ?_⟩
    · have := cut_any (ptext (z :: ws)) (some 1) none
      exact sz4 (by omega)
    · rw [words_split hw]
      exact q D _ (same_upd nD) nD upd_same
theorem sc_is_whole : FnScope ["value"] ["value"] (defScope s_is_whole) := ⟨rfl, rfl, rfl, by decide +kernel, rfl, by decide +kernel, by decide +kernel⟩
theorem ok_is_whole {fd : FuncData} (F : Df K ("is_whole", none) "is_whole" "is_whole" s_is_whole [] fd) (T : Tx K mg) : FnOk P w K mg base CX0 1 (He.ga K "is_whole") fd ["value"] (sp_isw K (He.ga K "Part")) := by
  refine F.ok sc_is_whole (fun vs H Q E h => by obtain ⟨v, rfl, _⟩ := h; rfl) (fun cdv A outer s H vs Q E hr h => ?_)
  obtain ⟨v, rfl, h⟩ := h
  refine ⟨_, PSs.nox (pss_one (ps_ret (pe_and (pe_callB (call_isiK' K) (by rfl) T.isinstance (by decide +kernel) (pa_cons (pv 0) (pa_cons (pe_bltn (v := .ty "int") (by rfl) T.int (by decide +kernel) rfl) pa_nil))) (pe_one (pe_not (pe_callB (call_isiK' K) (by rfl) T.isinstance (by decide +kernel) (pa_cons (pv 0) (pa_cons (pe_bltn (v := .ty "bool") (by rfl) T.bool (by decide +kernel) rfl) pa_nil)))))))), ?_⟩
  rcases h with ⟨d, hd, q⟩ | ⟨t, q⟩
  · cases hd with
    | non => exact ⟨_, rfl, _, _, _, _, false, rfl, .ty "int", .base .non, kit_ty (by decide +kernel), false, rfl, iteF q⟩
    | str z => exact ⟨_, rfl, _, _, _, _, false, rfl, .ty "int", .base (.str z), kit_ty (by decide +kernel), false, rfl, iteF q⟩
    | lst h1 => exact ⟨_, rfl, _, _, _, _, false, rfl, .ty "int", .base (.lst h1), kit_ty (by decide +kernel), false, rfl, iteF q⟩
    | tup h1 => exact ⟨_, rfl, _, _, _, _, false, rfl, .ty "int", .base (.tup h1), kit_ty (by decide +kernel), false, rfl, iteF q⟩
    | bl b => exact ⟨_, rfl, _, _, _, _, true, rfl, .ty "int", .base (.bl b), kit_ty (by decide +kernel), true, rfl, iteT ⟨_, rfl, _, _, _, _, true, rfl, .ty "bool", .base (.bl b), kit_ty (by decide +kernel), true, rfl, q⟩⟩
    | int i => exact ⟨_, rfl, _, _, _, _, true, rfl, .ty "int", .base (.int i), kit_ty (by decide +kernel), true, rfl, iteT ⟨_, rfl, _, _, _, _, false, rfl, .ty "bool", .base (.int i), kit_ty (by decide +kernel), false, rfl, q⟩⟩
  · exact ⟨_, rfl, _, _, _, _, false, rfl, .ty "int", t, T.pk_int, false, rfl, iteF q⟩
theorem sc_are_wholes : FnScope ["values", "many", "value"] ["values", "many"] (defScope s_are_wholes) := ⟨rfl, rfl, rfl, by decide +kernel, rfl, by decide +kernel, by decide +kernel⟩
theorem ok_are_wholes {fd : FuncData} (F : Df K ("are_wholes", none) "are_wholes" "are_wholes" s_are_wholes [] fd) (T : Tx K mg) (c_is_whole : Cal P w K mg base 1 "is_whole" ["value"] (sp_isw K (He.ga K "Part"))) : FnOk P w K mg base CX0 2 (He.ga K "are_wholes") fd ["values", "many"] sp_wholes := by
  refine F.ok sc_are_wholes (fun vs H Q E h => by obtain ⟨v, d, n, rfl, _⟩ := h; rfl) (fun cdv A outer s H vs Q E hr h => ?_)
  obtain ⟨v, d, n, rfl, hd, hl, q⟩ := h
  refine ⟨_, PSs.nox (pss_one (ps_ret (pe_and (pe_callB (call_isiK' K) (by rfl) T.isinstance (by decide +kernel) (pa_cons (pv 0) (pa_cons (pe_bltn (v := .ty "tuple") (by rfl) T.tuple (by decide +kernel) rfl) pa_nil))) (pe_and (pe_cmpR op_eq (pe_callB (call_len_seqK K) (by rfl) T.len (by decide +kernel) (pa_cons (pv 0) pa_nil)) (pv 1) (nomark _)) (pe_one (pe_callB (cr_allK K rfl) (by rfl) T.all (by decide +kernel) (pa_cons (pe_lc (own := [("value", 2)]) (by rfl) sc_are_wholes.nd (pi_tupK K (pv 0)) (blkOk_by (N := ["values", "many", "value"]) (sc := (defScope s_are_wholes)) (by decide +kernel)) (fun _ _ _ _ _ => (pg_name (i := 2) sc_are_wholes.nd rfl (by first | exact Or.inl rfl | exact Or.inr rfl))) (fun _ _ _ _ _ => pts_nil) (fun _ _ _ _ _ => (pe_cal c_is_whole (hr.mono (by omega)) (by rfl) (pa_cons (pv 2) pa_nil)))) pa_nil))))))), ?_⟩
  obtain ⟨T0, t1, t2⟩ := hd.tyT (K := K)
  refine ⟨_, rfl, _, _, _, _, _, rfl, .ty "tuple", t1, kit_ty t2, _, rfl, ?_⟩
  rcases hd.tupOr with ⟨p, xs, ds, rfl, rfl, hp, hx⟩ | no
  · refine iteT ?_
    have lx := hx.len
    have l2 := hl ds rfl
    refine ⟨_, rfl, p, xs, rfl, .inr (.inl (.inl hp)), _, rfl, rfl, _, rfl, ?_⟩
    have e1 : decide (V.int (xs.length : Int) = V.int (n : Int)) = decide (ds.length = n) := by
      rw [dI, lx]
      by_cases e : ds.length = n
      · rw [decide_eq_true e, decide_eq_true (by rw [e])]
      · rw [decide_eq_false e, decide_eq_false (by omega)]
    rw [e1]
    by_cases e : ds.length = n
    · rw [decide_eq_true e]
      refine iteT ?_
      refine ⟨_, rfl, p, rfl, ⟨_, .inl (.inl hp)⟩, fun D hD => ?_⟩
      refine lcM (walk_tup (xs := xs)) ds lx.symm (fun d => some (.bl (isIntD d))) (fun H s => Same.tup s (.inl (.inl hp))) (sz4 (by omega)) hD (fun i x m H' hx' hm' s' => ?_) (fun H1 s2 d1 => ?_)
      · obtain ⟨d', k1, k2⟩ := hx.get hx'
        rw [hm'] at k1
        cases k1
        intro Q1 Q0 h1 h0
        exact ⟨rfl, _, rfl, x, rfl, .inl ⟨m, k2.same s', h1 _ _ rfl (Same.refl _)⟩⟩
      · have el : (ds.filterMap fun d => some (V.bl (isIntD d))) = (ds.map isIntD).map V.bl := by
          rw [List.filterMap_eq_map', List.map_map]
          rfl
        rw [el] at d1
        refine ⟨D, _, rfl, .inl (.inl d1), ?_⟩
        have := q H1 s2
        rw [show wholesD (.tuple ds) n = (ds.map isIntD).all id by
          show (decide (ds.length = n) && ds.all isIntD) = _
          rw [decide_eq_true e, List.all_map]
          rfl] at this
        exact this
    · rw [decide_eq_false e]
      have := q H (Same.refl _)
      rw [show wholesD (.tuple ds) n = false by
        show (decide (ds.length = n) && ds.all isIntD) = _
        rw [decide_eq_false e]
        rfl] at this
      exact iteF this
  · rw [no]
    have := q H (Same.refl _)
    rw [wholesD_tup no] at this
    exact iteF this
end
end Lx

namespace Pt
open PySem PySem.Spec PyProof.Rows L2 Ub Ur Ug Ue Up Uo Vk Ve Wb
/-! ### making a part, cell by cell -/
def atP (g : Sg) (i : Nat) : Nat := ((g.tr.fields.take i).map fun m => m.2.plains).sum
abbrev Zc1 (Z : Addr → Prop) (cd : Addr) (b : Addr) : Prop := Z b ∧ b ≠ cd
/-- the fields of a part that is being made -/
abbrev pfs (sx tk cd : Addr) : List (Str × V) := [("shape", .ref sx), ("token", .ref tk), ("cells", .ref cd)]
structure Lp (C : Cp3) (Z : Addr → Prop) (H0 : Hp) (M : Pg) (x dx sx : Addr) (g : Sg) (tk cd : Addr) (is : List Int) (i : Nat) (H : Hp) (N : Pg) (cs : List (Str × Cell)) : Prop where
  same : Same H0 H
  hx : H x = some (.ins C.part dx (pfs sx tk cd))
  hcd : H cd = some (.dK (kvs cs))
  htk : ∃ d, H tk = some (.ins C.token d [])
  ok : PgOk C (Zc1 Z cd) H N
  sh : ShG (Zm (Zc1 Z cd) N) C.shape H sx g
  old : ∀ p n, M p = some n → N p = some n
  new : ∀ p n, N p = some n → M p = some n ∨ (H0 p = none ∧ H0 n.cd = none ∧ H0 n.tk = none ∧ p ≠ x ∧ n.cd ≠ cd ∧ n.tk ≠ tk)
  csk : CsOk N (g.tr.fields.take i) cs
  con : (cs.flatMap fun c => cellC N 4 c.2) = is.take (atP g i)
  nd : (cs.flatMap fun c => cellN N 4 c.2).Nodup
  frs : ∀ p ∈ cs.flatMap (fun c => cellN N 4 c.2), H0 p = none ∧ p ≠ x
  cd0 : ∀ p n, M p = some n → H0 n.cd ≠ none ∧ H0 n.tk ≠ none ∧ H0 p ≠ none
section
variable {C : Cp3} {Z : Addr → Prop} {H0 : Hp} {M : Pg} {x dx sx : Addr} {g : Sg} {tk cd : Addr} {is : List Int} {i : Nat} {H : Hp} {N : Pg} {cs : List (Str × Cell)}
theorem Lp.to {H' : Hp} (L : Lp C Z H0 M x dx sx g tk cd is i H N cs) (s : Same H H') : Lp C Z H0 M x dx sx g tk cd is i H' N cs :=
  { L with same := L.same.trans s, hx := s _ _ L.hx, hcd := s _ _ L.hcd, htk := L.htk.imp fun d e => s _ _ e, ok := L.ok.same s, sh := L.sh.kz (kz_of s) }
/-- the nodes below a cell are parts that stand -/
theorem nodes_in {H : Hp} {Z : Addr → Prop} {N : Pg} (h : PgOk C Z H N) : ∀ (d : Nat) {p : Addr} {n : Nd}, N p = some n → ∀ q ∈ nodes N d p, ∃ m, N q = some m
  | 0, _, _, _, q, hq => nomatch hq
  | d + 1, p, n, e, q, hq => by
    rw [nodes_eq e] at hq
    rcases List.mem_cons.mp hq with e1 | hq
    · rw [e1]; exact ⟨n, e⟩
    · obtain ⟨c, hc, hq⟩ := List.mem_flatMap.mp hq
      obtain ⟨f, hf, _, hc2⟩ := (h.nd p n e).cs.fits c hc
      cases ec : c.2 with
      | int i => rw [ec] at hq; exact nomatch hq
      | part r =>
        rw [ec] at hq hc2
        obtain ⟨_, m, hm, _⟩ := hc2
        exact nodes_in h d hm q hq
theorem cellN_in {H : Hp} {Z : Addr → Prop} {N : Pg} (h : PgOk C Z H N) {l : List (Str × Tr)} {cs : List (Str × Cell)} (hc : CsOk N l cs) : ∀ q ∈ cs.flatMap (fun c => cellN N 4 c.2), ∃ m, N q = some m := fun q hq => by
  obtain ⟨c, hcc, hq⟩ := List.mem_flatMap.mp hq
  obtain ⟨f, hf, _, hc2⟩ := hc.fits c hcc
  cases ec : c.2 with
  | int i => rw [ec] at hq; exact nomatch hq
  | part r =>
    rw [ec] at hq hc2
    obtain ⟨_, m, hm, _⟩ := hc2
    exact nodes_in h 4 hm q hq
theorem atP_next {m : Str × Tr} (h : g.tr.fields[i]? = some m) : atP g (i + 1) = atP g i + m.2.plains := by
  unfold atP
  rw [List.take_add_one, h, List.map_append, List.sum_append]
  simp
theorem atP_all : atP g g.tr.fields.length = (g.tr.fields.map fun m => m.2.plains).sum := by
  unfold atP
  rw [List.take_length]
theorem atP_le (h : i ≤ g.tr.fields.length) : atP g i ≤ (g.tr.fields.map fun m => m.2.plains).sum := by
  unfold atP
  have e : (g.tr.fields.map fun m => m.2.plains) = ((g.tr.fields.take i).map fun m => m.2.plains) ++ ((g.tr.fields.drop i).map fun m => m.2.plains) := by rw [← List.map_append, List.take_append_drop]
  rw [e, List.sum_append]
  omega
theorem plains_sum {t : Tr} (h : t.isNil = false) : t.plains = (t.fields.map fun p => p.2.plains).sum := by
  rw [← Tr.spla_eq]
  unfold Tr.plains
  rw [h]
  rfl
/-- a part more, that is made beside -/
theorem Lp.made {H' : Hp} {N' : Pg} {x' sx' : Addr} {g' : Sg} {js : List Int} (L : Lp C Z H0 M x dx sx g tk cd is i H N cs) (m : Made C (Zc1 Z cd) H H' N N' x' sx' g' js) : Lp C Z H0 M x dx sx g tk cd is i H' N' cs := by
  have ec : ∀ c ∈ cs, ∃ t, Fits N t c.2 := fun c hc => by
    obtain ⟨f, _, _, h⟩ := L.csk.fits c hc
    exact ⟨f.2, h⟩
  have e1 : (cs.flatMap fun c => cellC N' 4 c.2) = cs.flatMap fun c => cellC N 4 c.2 := flat_congr fun c hc => by
    obtain ⟨t, h⟩ := ec c hc
    exact cellC_mono L.ok m.old h
  have e2 : (cs.flatMap fun c => cellN N' 4 c.2) = cs.flatMap fun c => cellN N 4 c.2 := flat_congr fun c hc => by
    obtain ⟨t, h⟩ := ec c hc
    exact cellN_mono L.ok m.old h
  refine ⟨L.same.trans m.same, m.same _ _ L.hx, m.same _ _ L.hcd, L.htk.imp fun d e => m.same _ _ e, m.ok, m.shape L.sh, fun p n e => m.old _ _ (L.old _ _ e), fun p n e => ?_, L.csk.imp fun t c => Fits.mono m.old, by rw [e1]; exact L.con, by rw [e2]; exact L.nd, by rw [e2]; exact L.frs, L.cd0⟩
  rcases m.new p n e with e | ⟨k1, k2, k3⟩
  · exact L.new p n e
  · obtain ⟨d, ht⟩ := L.htk
    exact .inr ⟨L.same.free k1, L.same.free k2, L.same.free k3, (fun z => by rw [z, L.hx] at k1; cases k1), (fun z => by rw [z, L.hcd] at k2; cases k2), (fun z => by rw [z, ht] at k3; cases k3)⟩
/-- a cell more -/
theorem Lp.put {w : Str} {t : Tr} {c : Cell} (L : Lp C Z H0 M x dx sx g tk cd is i H N cs) (hg : good g.tr) (hcd0 : H0 cd = none) (hi : g.tr.fields[i]? = some (w, t)) (hc : Fits N t c) (hcon : cellC N 4 c = (is.drop (atP g i)).take t.plains)
    (hnd : (cellN N 4 c).Nodup) (hfr : ∀ p ∈ cellN N 4 c, (H0 p = none ∧ p ≠ x) ∧ p ∉ cs.flatMap (fun c => cellN N 4 c.2)) : Lp C Z H0 M x dx sx g tk cd is (i + 1) (upd H cd (.dK (putK (kvs cs) (.inr w) c.v))) N (cs ++ [(w, c)]) := by
  have hw : w ∉ cs.map (·.1) := fun z => by
    rw [L.csk.words] at z
    have hn := (good_fields hg).2
    have e : g.tr.fields = g.tr.fields.take i ++ (w, t) :: g.tr.fields.drop (i + 1) := by
      have hlt : i < g.tr.fields.length := (List.getElem?_eq_some_iff.mp hi).1
      have e0 : g.tr.fields[i] = (w, t) := (List.getElem?_eq_some_iff.mp hi).2
      rw [← e0, ← List.drop_eq_getElem_cons hlt, List.take_append_drop]
    rw [e, List.map_append] at hn
    exact (List.nodup_append.mp hn).2.2 w z w (by simp) rfl
  have hp : putK (kvs cs) (.inr w) c.v = kvs (cs ++ [(w, c)]) := by
    rw [put_fresh]
    · unfold kvs
      rw [List.map_append]
      rfl
    · intro z
      obtain ⟨kv, h1, h2⟩ := List.mem_map.mp z
      obtain ⟨m, h3, rfl⟩ := List.mem_map.mp h1
      exact hw (List.mem_map.mpr ⟨m, h3, Sum.inr.inj h2⟩)
  have nb : ∀ {b : Addr} {o : HO}, H b = some o → (∀ l, o ≠ .dK l) → (upd H cd (.dK (putK (kvs cs) (.inr w) c.v))) b = some o := fun {b o} e hn => by
    rw [upd_ne (fun z => by rw [z, L.hcd] at e; cases e; exact hn _ rfl)]
    exact e
  have kz : ∀ {Y : Addr → Prop}, (∀ b, Y b → b ≠ cd) → Kz Y H (upd H cd (.dK (putK (kvs cs) (.inr w) c.v))) := fun hy b o e _ z => by
    rcases z with z | ⟨xs, z⟩
    · rw [upd_ne (hy b z)]; exact e
    · rw [z] at e ⊢; exact nb e (fun _ y => nomatch y)
  refine ⟨same_mut L.same hcd0, nb L.hx (fun _ z => nomatch z), by rw [upd_same, hp], L.htk.imp fun d e => nb e (fun _ z => nomatch z), ?_, L.sh.kz (kz fun b z => z.1.2), L.old, L.new, ?_, ?_, ?_, ?_, L.cd0⟩
  · refine ⟨fun p n e => ?_, L.ok.cdi, L.ok.tki⟩
    have Nn := L.ok.nd p n e
    have ncd : n.cd ≠ cd := by
      rcases L.new p n e with e | ⟨_, _, _, _, k, _⟩
      · exact fun z => (L.cd0 p n e).1 (by rw [z]; exact hcd0)
      · exact k
    refine ⟨nb Nn.at_ (fun _ z => nomatch z), by rw [upd_ne ncd]; exact Nn.cells, Nn.tok.imp fun d e => nb e (fun _ z => nomatch z), Nn.sh.kz (kz fun b z => z.1.2), Nn.gd, Nn.rc, Nn.cs⟩
  · rw [List.take_add_one, hi]
    have key : ∀ {l : List (Str × Tr)} {cs : List (Str × Cell)}, CsOk N l cs → CsOk N (l ++ [(w, t)]) (cs ++ [(w, c)]) := by
      intro l
      induction l with
      | nil =>
        intro cs h
        cases cs with
        | nil => exact ⟨rfl, hc, trivial⟩
        | cons _ _ => exact h.elim
      | cons f l ih =>
        intro cs h
        cases cs with
        | nil => exact h.elim
        | cons c0 cs => exact ⟨h.1, h.2.1, ih h.2.2⟩
    exact key L.csk
  · rw [List.flatMap_append, L.con, atP_next hi]
    show _ ++ ([(w, c)].flatMap fun c => cellC N 4 c.2) = _
    rw [show ([(w, c)].flatMap fun c => cellC N 4 c.2) = cellC N 4 c by simp, hcon, List.take_add]
  · rw [List.flatMap_append, show ([(w, c)].flatMap fun c => cellN N 4 c.2) = cellN N 4 c by simp]
    exact List.nodup_append.mpr ⟨L.nd, hnd, fun p hp q hq e => (hfr q hq).2 (by rw [← e]; exact hp)⟩
  · intro p hp
    rw [List.flatMap_append, show ([(w, c)].flatMap fun c => cellN N 4 c.2) = cellN N 4 c by simp] at hp
    rcases List.mem_append.mp hp with hp | hp
    · exact L.frs p hp
    · exact (hfr p hp).1
theorem Lp.madePut {H' : Hp} {N' : Pg} {x' sx' : Addr} {g' : Sg} {js : List Int} {w : Str} {t : Tr} (L : Lp C Z H0 M x dx sx g tk cd is i H N cs) (m : Made C (Zc1 Z cd) H H' N N' x' sx' g' js) (hg : good g.tr) (hcd0 : H0 cd = none) (hi : g.tr.fields[i]? = some (w, t)) (ht : t.isNil = false) (hg' : g'.tr = t)
    (hjs : js = (is.drop (atP g i)).take t.plains) : Lp C Z H0 M x dx sx g tk cd is (i + 1) (upd H' cd (.dK (putK (kvs cs) (.inr w) (Cell.part x').v))) N' (cs ++ [(w, .part x')]) := by
  obtain ⟨n, h1, h2, h3⟩ := m.at_
  have e2 : (cs.flatMap fun c => cellN N' 4 c.2) = cs.flatMap fun c => cellN N 4 c.2 := flat_congr fun c hc => by
    obtain ⟨f, _, _, h⟩ := L.csk.fits c hc
    exact cellN_mono L.ok m.old h
  refine (L.made m).put hg hcd0 hi ⟨ht, n, h1, by rw [h3]; exact hg'⟩ (by rw [← hjs]; exact m.con) m.nd fun p hp => ?_
  have k := m.frs p hp
  refine ⟨⟨L.same.free k, fun z => by rw [z, L.hx] at k; cases k⟩, fun z => ?_⟩
  rw [e2] at z
  obtain ⟨mm, hm⟩ := cellN_in L.ok L.csk p z
  rw [(L.ok.nd p mm hm).at_] at k
  cases k
theorem Lp.intPut {w : Str} {j : Int} (L : Lp C Z H0 M x dx sx g tk cd is i H N cs) (hg : good g.tr) (hcd0 : H0 cd = none) (hi : g.tr.fields[i]? = some (w, .nil)) (hj : is[atP g i]? = some j) :
    Lp C Z H0 M x dx sx g tk cd is (i + 1) (upd H cd (.dK (putK (kvs cs) (.inr w) (Cell.int j).v))) N (cs ++ [(w, .int j)]) := by
  refine L.put hg hcd0 hi rfl ?_ List.nodup_nil (fun p hp => nomatch hp)
  show [j] = (is.drop (atP g i)).take 1
  have hlt : atP g i < is.length := (List.getElem?_eq_some_iff.mp hj).1
  rw [List.drop_eq_getElem_cons hlt, (List.getElem?_eq_some_iff.mp hj).2]
  rfl
/-- the part is there -/
theorem Lp.done (L : Lp C Z H0 M x dx sx g tk cd is g.tr.fields.length H N cs) (hg : good g.tr) (hn : g.tr.isNil = false) (hx0 : H0 x = none) (hcd0 : H0 cd = none) (htk0 : H0 tk = none) (hl : is.length = g.tr.plains) :
    Made C Z H0 H M (fun p => if p = x then some ⟨sx, g, dx, tk, cd, cs⟩ else N p) x sx g is := by
  have csk := L.csk
  rw [List.take_length] at csk
  have nx : N x = none := by
    cases e : N x with
    | none => rfl
    | some n =>
      rcases L.new x n e with e | ⟨_, _, _, k, _⟩
      · exact absurd hx0 (L.cd0 x n e).2.2
      · exact absurd rfl k
  have old : ∀ p n, N p = some n → (fun p => if p = x then some (⟨sx, g, dx, tk, cd, cs⟩ : Nd) else N p) p = some n := fun p n e => by
    show (if p = x then some (⟨sx, g, dx, tk, cd, cs⟩ : Nd) else N p) = _
    rw [if_neg (fun z => by rw [z, nx] at e; cases e)]
    exact e
  have at_ : (fun p => if p = x then some (⟨sx, g, dx, tk, cd, cs⟩ : Nd) else N p) x = some ⟨sx, g, dx, tk, cd, cs⟩ := if_pos rfl
  have inv : ∀ p n, (fun p => if p = x then some (⟨sx, g, dx, tk, cd, cs⟩ : Nd) else N p) p = some n → (p = x ∧ n = ⟨sx, g, dx, tk, cd, cs⟩) ∨ (p ≠ x ∧ N p = some n) := fun p n e => by
    have e : (if p = x then some (⟨sx, g, dx, tk, cd, cs⟩ : Nd) else N p) = some n := e
    by_cases z : p = x
    · rw [if_pos z] at e
      exact .inl ⟨z, (Option.some.inj e).symm⟩
    · rw [if_neg z] at e
      exact .inr ⟨z, e⟩
  generalize (fun p => if p = x then some (⟨sx, g, dx, tk, cd, cs⟩ : Nd) else N p) = N' at *
  have zm : ∀ b, Zm (Zc1 Z cd) N b → H b ≠ none → Zm Z N' b := fun b z _ => ⟨z.1.1, fun p n e y => by
    rcases inv p n e with ⟨_, e⟩ | ⟨_, e⟩
    · rw [e] at y; exact z.1.2 y.symm
    · exact z.2 p n e y⟩
  have ncd : ∀ p n, N p = some n → n.cd ≠ cd ∧ n.tk ≠ tk := fun p n e => by
    rcases L.new p n e with e | ⟨_, _, _, _, k1, k2⟩
    · exact ⟨fun z => (L.cd0 p n e).1 (by rw [z]; exact hcd0), fun z => (L.cd0 p n e).2.1 (by rw [z]; exact htk0)⟩
    · exact ⟨k1, k2⟩
  have ec : (cs.flatMap fun c => cellC N' 4 c.2) = cs.flatMap fun c => cellC N 4 c.2 := flat_congr fun c hc => by
    obtain ⟨f, _, _, h⟩ := csk.fits c hc
    exact cellC_mono L.ok old h
  have en : (cs.flatMap fun c => cellN N' 4 c.2) = cs.flatMap fun c => cellN N 4 c.2 := flat_congr fun c hc => by
    obtain ⟨f, _, _, h⟩ := csk.fits c hc
    exact cellN_mono L.ok old h
  have ok : PgOk C Z H N' := by
    refine ⟨fun p n e => ?_, fun p q a b e1 e2 e3 => ?_, fun p q a b e1 e2 e3 => ?_⟩
    · rcases inv p n e with ⟨rfl, rfl⟩ | ⟨_, e⟩
      · exact ⟨L.hx, L.hcd, L.htk, L.sh.imp zm, hg, hn, csk.imp fun t c => Fits.mono old⟩
      · have Nn := L.ok.nd p n e
        exact ⟨Nn.at_, Nn.cells, Nn.tok, Nn.sh.imp zm, Nn.gd, Nn.rc, Nn.cs.imp fun t c => Fits.mono old⟩
    · rcases inv p a e1 with ⟨rfl, rfl⟩ | ⟨_, e1⟩ <;> rcases inv q b e2 with ⟨rfl, rfl⟩ | ⟨_, e2⟩
      · rfl
      · exact absurd e3.symm (ncd _ _ e2).1
      · exact absurd e3 (ncd _ _ e1).1
      · exact L.ok.cdi _ _ _ _ e1 e2 e3
    · rcases inv p a e1 with ⟨rfl, rfl⟩ | ⟨_, e1⟩ <;> rcases inv q b e2 with ⟨rfl, rfl⟩ | ⟨_, e2⟩
      · rfl
      · exact absurd e3.symm (ncd _ _ e2).2
      · exact absurd e3 (ncd _ _ e1).2
      · exact L.ok.tki _ _ _ _ e1 e2 e3
  have nn : nodes N' 4 x = x :: cs.flatMap fun c => cellN N 4 c.2 := by
    rw [← nodes_up ok at_ (by show g.tr.depth ≤ 4; have := (good_has hg).1; omega), nodes_eq at_, en]
  refine ⟨ok, ⟨_, at_, rfl, rfl⟩, fun p n e => old _ _ (L.old _ _ e), fun p n e => ?_, L.same, ?_, ?_, fun p hp => ?_⟩
  · rcases inv p n e with ⟨rfl, rfl⟩ | ⟨_, e⟩
    · exact .inr ⟨hx0, hcd0, htk0⟩
    · rcases L.new p n e with e | ⟨k1, k2, k3, _⟩
      · exact .inl e
      · exact .inr ⟨k1, k2, k3⟩
  · rw [content_eq ok at_, ec, L.con, atP_all, ← plains_sum hn, ← hl, List.take_length]
  · rw [nn]
    exact List.nodup_cons.mpr ⟨fun z => (L.frs x z).2 rfl, L.nd⟩
  · rw [nn] at hp
    rcases List.mem_cons.mp hp with e | hp
    · rw [e]; exact hx0
    · exact (L.frs p hp).1
end
end Pt

namespace Lx
open PySem PySem.Spec PyProof.Rows L2 Ub Ur Ug Ue Up Uo Ve Va Vk Wb Pt
section
variable {P : Program} {w : World} {K : PySem.W.Frag} {mg : Str → Option Value} {base : Heap}
theorem lk4 {z : Str} {tv : V} {na fa sa : Addr} : ([("text", V.str z), ("tree", tv), ("names", .ref na), ("fields", .ref fa), ("spots", .ref sa)] : List (Str × V)).lookup ("fields" : Str) = some (V.ref fa) := rfl
theorem lkC {sx tk cd : Addr} : (pfs sx tk cd).lookup ("cells" : Str) = some (V.ref cd) := rfl
theorem lkS {sx tk cd : Addr} : (pfs sx tk cd).lookup ("shape" : Str) = some (V.ref sx) := rfl
theorem no_part {f : Addr} {fd : FuncData} {k : Nat} {a b c e : Str} {C : Cp3} {B : Addr} : FnOk P w K mg base (CX P w) k f fd [a, b, c, e] (sp_part C B 0) :=
  ⟨fun vs H Q E h => by obtain ⟨_, _, _, _, _, _, _, _, rfl, _⟩ := h; rfl, fun A outer s H args us vs Q E _ _ _ _ h => by
    obtain ⟨_, _, _, _, _, _, _, _, _, _, _, _, _, _, _, _, _, hd, _⟩ := h
    exact absurd hd (Nat.not_lt_zero _)⟩
theorem sc_Part___init__ : FnScope ["self", "shape", "values", "cells", "at", "name", "field"] ["self", "shape", "values", "cells"] (defScope s_Part___init__) := ⟨rfl, rfl, rfl, by decide +kernel, rfl, by decide +kernel, by decide +kernel⟩
theorem ok_Part {fd : FuncData} {ds : List Value} (F : FunD K "__init__" "Part.__init__" (defArgs s_Part___init__) (defBody s_Part___init__) (defScope s_Part___init__) [] [("cells", V.non)] (He.fAd K ("Part", some "__init__")) fd) (T : Tx K mg) (hb : Binds K fd ["self", "shape", "values", "cells"] ds) (hv : Vals [V.non] ds)
    (c_are_wholes : Cal P w K mg base 2 "are_wholes" ["values", "many"] sp_wholes) (p_Shape_is_plain : CalP P w K mg base 1 (He.ga K "Shape") "is_plain" (sp_shP (He.ga K "Shape") fun t => .bl t.isNil)) (p_Shape_plains : CalP P w K mg base 5 (He.ga K "Shape") "plains" (sp_shP (He.ga K "Shape") fun t => .int (t.plains : Nat)))
    (x_BadValues : CalX P w K mg base 1 "BadValues" (He.ga K "BadValues") "given") : ∀ d, FnOk P w K mg base (CX P w) (2 * d + 7) (He.fAd K ("Part", some "__init__")) fd ["self", "shape", "values", "cells"] (sp_part (C3 K) (He.ga K "BadValues") d)
  | 0 => no_part
  | d + 1 => by
    have m_Part : CalMD P w K mg base (2 * d + 7) "Part" (He.ga K "Part") ["self", "shape", "values", "cells"] [V.non] (sp_part (C3 K) (He.ga K "BadValues") d) := ⟨_, fd, ds, T.m_Part, ok_Part F T hb hv c_are_wholes p_Shape_is_plain p_Shape_plains x_BadValues d, T.g_Part, hb, hv⟩
    have ok := F.ok (k := 2 * d + 8) (CX := CX P w) (P := P) (w := w) (mg := mg) (base := base) (sp := sp_part (C3 K) (He.ga K "BadValues") (d + 1)) sc_Part___init__ (fun vs H Q E h => by obtain ⟨_, _, _, _, _, _, _, _, rfl, _⟩ := h; rfl) (fun cdv A outer s H vs Q E hr h => ?_)
    · exact ok
    obtain ⟨H0, Z, M, x, dx, sx, g, v, rfl, eH, nx, ndx, hne, ok0, sh0, gd, hn, hd, h⟩ := h
    refine ⟨_, (pss_cons (ps_if (PW.pt (pw_and (pt_cmpR op_isN (pv 3) pe_non (nomark _)) (pw_and1 (pt_not (pt_val (pe_cal c_are_wholes (hr.mono (by omega)) (by rfl) (pa_cons (pv 2) (pa_cons (pe_propP p_Shape_plains (hr.mono (by omega)) (pv 1)) pa_nil))))))))
        (pss_one (ps_raiseX x_BadValues rfl (takes_of rfl rfl rfl rfl) (hr.mono (by omega)) (by rfl) (pv 2)))
        pss_nil)
      (pss_cons (ps_fld (pv 0) (pv 1) rfl)
      (pss_cons (ps_fld (pv 0) (pe_new0 T.mkTok (by rfl) T.g_Token) rfl)
      (pss_cons (ps_fld (pv 0) pe_dnewK rfl)
      (pss_cons (ps_if (pt_cmpR op_notN (pv 3) pe_non (nomark _))
        (pss_cons (ps_fld (pv 0) (pv 3) rfl)
          (pss_one ps_retN))
        pss_nil)
      (pss_cons (ps_set (i := 4) sc_Part___init__.nd rfl (by first | exact Or.inl rfl | exact Or.inr rfl) pe_int)
      (pss_one (ps_for (passes_of rfl) rfl (pi_tupK K (pe_fldK K (pv 1) rfl)) (pg_name (i := 5) sc_Part___init__.nd rfl (by first | exact Or.inl rfl | exact Or.inr rfl))
        (pss_cons (ps_set (i := 6) sc_Part___init__.nd rfl (by first | exact Or.inl rfl | exact Or.inr rfl) (pe_dget (units1 hr) (pe_fldK K (pv 1) rfl) (pv 5) (fun _ _ => rfl)))
          (pss_cons (ps_dput (units1 hr) (pe_fldK K (pv 0) rfl) (pv 5) (pe_ifExp (pt_val (pe_propP p_Shape_is_plain (hr.mono (by omega)) (pv 6))) (pe_ix (ix_tupK K) (pv 2) (pv 4) (fun _ _ => rfl)) (pe_makeD m_Part (fun _ => passE0) (hr.mono (by omega)) (by rfl) (pa_cons (pv 6) (pa_cons (pe_slice (sl_tupAK K) (pv 2) (po_some (pv 4)) (po_some (pe_op op_add (pv 4) (pe_propP p_Shape_plains (hr.mono (by omega)) (pv 6))))) pa_nil)))) rfl)
          (pss_one (ps_set (i := 4) sc_Part___init__.nd rfl (by first | exact Or.inl rfl | exact Or.inr rfl) (pe_op op_add (pv 4) (pe_propP p_Shape_plains (hr.mono (by omega)) (pv 6))))))))))))))), ?_⟩
    obtain ⟨md, ms, mh⟩ := good_has gd
    have s0 : Same H0 H := fun b o e => by rw [eH, upd_ne (ne_of_none e nx), upd_ne (ne_of_none e ndx)]; exact e
    have hx : H x = some (.ins (He.ga K "Part") dx []) := by rw [eH]; exact upd_same
    clear eH
    obtain ⟨dxs, tvs, na, fa, sa, h1, h2, h3, h4, h5, z1, z2, z3⟩ := id sh0.1
    refine ⟨_, rfl, rfl, _, rfl, iteY rfl ?_⟩
    have shH := sh0.kz (kz_of s0)
    refine ⟨_, rfl, _, rfl, sx, dxs, _, rfl, s0 _ _ h1, sx, g, _, rfl, shH, gd, fun H1 s1 => ?_⟩
    rcases h with ⟨a, is, rfl, ha, hl, q⟩ | ⟨dt, hdt, hlt, hno, q⟩
    rotate_left
    · -- what is refused
      refine ⟨v, dt, g.tr.plains, rfl, hdt.same (s0.trans s1), hlt, fun H2 s2 => ⟨_, rfl, ?_⟩⟩
      rw [hno]
      have s02 := (s0.trans s1).trans s2
      exact iteT ⟨_, rfl, mkX fun e H3 s3 ne he => q e H3 (s02.trans s3) (s02.free ne) he⟩
    refine ⟨.ref a, intsD is, g.tr.plains, rfl, .tup ((s0.trans s1) _ _ ha) (by simp) (dtvs_int is), fun ds e => ?_, fun H2 s2 => ⟨_, rfl, ?_⟩⟩
    · injection e with e
      rw [← e, List.length_map, hl]
      have := gd.2.2
      omega
    rw [show wholesD (intsD is) g.tr.plains = true by rw [← hl]; exact wholesD_ints is]
    refine iteE (c := false) rfl (fun z => nomatch z) fun _ => ?_
    have s02 := (s0.trans s1).trans s2
    have hx2 := (s1.trans s2) _ _ hx
    clear hx s0 s1 s2 shH
    -- the fields
    refine ⟨_, rfl, _, rfl, x, _, dx, _, rfl, hx2, T.k_Part, T.n_Part_shape, (by show 0 < 1000; decide), ?_⟩
    have s03 : Same H0 (upd H2 x (.ins (He.ga K "Part") dx (putF "shape" (.ref sx) []))) := same_mut s02 nx
    have hx3 : (upd H2 x (.ins (He.ga K "Part") dx (putF "shape" (.ref sx) []))) x = some (.ins (He.ga K "Part") dx [("shape", .ref sx)]) := upd_same
    generalize upd H2 x (.ins (He.ga K "Part") dx (putF "shape" (.ref sx) [])) = H3 at *
    refine fun tk dtk ntk ndtk htkne => ⟨_, rfl, x, _, dx, [("shape", .ref sx)], rfl, ?_, T.k_Part, T.n_Part_token, (by show 1 < 1000; decide), ?_⟩
    · rw [upd_ne (ne_of_none hx3 ntk), upd_ne (ne_of_none hx3 ndtk)]
      exact hx3
    have xtk : x ≠ tk := ne_of_none hx3 ntk
    have ntk0 : H0 tk = none := s03.free ntk
    have s04 : Same H0 (upd (upd (upd H3 dtk (.own tk)) tk (.ins (He.ga K "Token") dtk [])) x (.ins (He.ga K "Part") dx (putF "token" (.ref tk) [("shape", .ref sx)]))) := same_mut (fun b o e => by rw [upd_ne (ne_of_none (s03 _ _ e) ntk), upd_ne (ne_of_none (s03 _ _ e) ndtk)]; exact s03 _ _ e) nx
    have hx4 : (upd (upd (upd H3 dtk (.own tk)) tk (.ins (He.ga K "Token") dtk [])) x (.ins (He.ga K "Part") dx (putF "token" (.ref tk) [("shape", .ref sx)]))) x = some (.ins (He.ga K "Part") dx [("shape", .ref sx), ("token", .ref tk)]) := by
      rw [upd_same, putF_snoc (show ("token" : Str) ∉ [("shape" : Str)] by decide)]
      rfl
    have htk4 : (upd (upd (upd H3 dtk (.own tk)) tk (.ins (He.ga K "Token") dtk [])) x (.ins (He.ga K "Part") dx (putF "token" (.ref tk) [("shape", .ref sx)]))) tk = some (.ins (He.ga K "Token") dtk []) := by rw [upd_ne xtk.symm]; exact upd_same
    generalize (upd (upd (upd H3 dtk (.own tk)) tk (.ins (He.ga K "Token") dtk [])) x (.ins (He.ga K "Part") dx (putF "token" (.ref tk) [("shape", .ref sx)]))) = H4 at *
    refine fun cd ncd => ⟨_, rfl, x, _, dx, [("shape", .ref sx), ("token", .ref tk)], rfl, ?_, T.k_Part, T.n_Part_cells, (by show 2 < 1000; decide), ?_⟩
    · rw [upd_ne (ne_of_none hx4 ncd)]
      exact hx4
    have xcd : x ≠ cd := ne_of_none hx4 ncd
    have tcd : tk ≠ cd := ne_of_none htk4 ncd
    have ncd0 : H0 cd = none := s04.free ncd
    have s05 : Same H0 (upd (upd H4 cd (.dK [])) x (.ins (He.ga K "Part") dx (putF "cells" (.ref cd) [("shape", .ref sx), ("token", .ref tk)]))) := same_mut (s04.trans (same_upd ncd)) nx
    have hx5 : (upd (upd H4 cd (.dK [])) x (.ins (He.ga K "Part") dx (putF "cells" (.ref cd) [("shape", .ref sx), ("token", .ref tk)]))) x = some (.ins (He.ga K "Part") dx (pfs sx tk cd)) := by
      rw [upd_same, putF_snoc (show ("cells" : Str) ∉ [("shape" : Str), "token"] by decide)]
      rfl
    have hcd5 : (upd (upd H4 cd (.dK [])) x (.ins (He.ga K "Part") dx (putF "cells" (.ref cd) [("shape", .ref sx), ("token", .ref tk)]))) cd = some (.dK []) := by rw [upd_ne xcd.symm]; exact upd_same
    have htk5 : (upd (upd H4 cd (.dK [])) x (.ins (He.ga K "Part") dx (putF "cells" (.ref cd) [("shape", .ref sx), ("token", .ref tk)]))) tk = some (.ins (He.ga K "Token") dtk []) := by rw [upd_ne xtk.symm, upd_ne tcd]; exact htk4
    generalize (upd (upd H4 cd (.dK [])) x (.ins (He.ga K "Part") dx (putF "cells" (.ref cd) [("shape", .ref sx), ("token", .ref tk)]))) = H5 at *
    clear hx2 hx3 hx4 htk4 s02 s03 s04
    refine ⟨_, rfl, rfl, _, rfl, iteNN rfl ?_⟩
    -- the loop
    have L0 : Lp (C3 K) Z H0 M x dx sx g tk cd is 0 H5 M [] := by
      have zi : ∀ b, Z b → H0 b ≠ none → Zc1 Z cd b := fun b z hb => ⟨z, fun y => hb (by rw [y]; exact ncd0)⟩
      refine ⟨s05, hx5, hcd5, ⟨_, htk5⟩, (ok0.zimp zi).same s05, (sh0.imp fun b z hb => ⟨zi b z.1 hb, z.2⟩).kz (kz_of s05), fun p n e => e, fun p n e => .inl e, trivial, rfl, List.nodup_nil, (fun p hp => nomatch hp), fun p n e => ?_⟩
      have N := ok0.nd p n e
      obtain ⟨dd, ht⟩ := N.tok
      exact ⟨by rw [N.cells]; simp, by rw [ht]; simp, by rw [N.at_]; simp⟩
    have lps : (g.tr.fields.map fun m => V.str m.1).length = g.tr.fields.length := by rw [List.length_map]
    refine ⟨_, rfl, sx, _, dxs, _, _, rfl, s05 _ _ h1, T.k_Shape, T.n_Shape_names, lk5, na, rfl, ⟨_, .inl (.inl (s05 _ _ h3))⟩, ?_⟩
    refine for_tup (K := K) (a := na) (xs := g.tr.fields.map fun m => V.str m.1) (fun i σ HH => ∃ y5 y6 N cs, σ = [some (.ref x), some (.ref sx), some (.ref a), some .non, some (.int (atP g i : Nat)), y5, y6] ∧ Lp (C3 K) Z H0 M x dx sx g tk cd is i HH N cs) ?_ (fun i σ HH _ p => ?_) (fun i y σ HH hy p => ?_) (fun σ HH p => ?_)
    · exact ⟨_, _, M, [], rfl, L0⟩
    · obtain ⟨_, _, _, _, _, L⟩ := p
      exact .inl (.inl (L.same _ _ h3))
    rotate_left
    · obtain ⟨y5, y6, N, cs, rfl, L⟩ := p
      rw [lps] at L
      exact q _ _ (L.done gd hn nx ncd0 ntk0 hl)
    obtain ⟨y5, y6, N, cs, rfl, L⟩ := p
    have hi : i < g.tr.fields.length := by
      rw [← lps]
      exact (List.getElem?_eq_some_iff.mp hy).1
    have hm : g.tr.fields[i]? = some g.tr.fields[i] := List.getElem?_eq_getElem hi
    generalize g.tr.fields[i] = m at hm
    obtain ⟨wd, t⟩ := m
    rw [List.getElem?_map, hm] at hy
    cases hy
    obtain ⟨gf, gw⟩ := (good_fields gd).1 _ (List.mem_of_getElem? hm)
    have gf : good t := gf
    have dl : t.depth < g.tr.depth := Tr.depth_lt (List.mem_of_getElem? hm)
    have an : atP g (i + 1) = atP g i + t.plains := atP_next hm
    have al := atP_le (g := g) (i := i + 1) hi
    rw [← plains_sum hn, ← hl] at al
    have al2 : atP g i + t.plains ≤ is.length := by rw [← show atP g (i + 1) = atP g i + t.plains from an]; exact al
    obtain ⟨dxs', tvs', na', fa', sa', k1, k2, k3, k4, k5, _⟩ := id L.sh.1
    obtain ⟨pf, sf, v1, v2, v3⟩ := ShL.field L.sh.2 hm (good_fields gd).2
    have v3 : sf.tr = t := v3
    have dg : DGet HH fa' (.str wd) (some (.ref pf)) := by
      have := DGet.k (H := HH) (a := fa') (k := .inr wd) k4
      rw [v1] at this
      exact this
    refine ⟨_, rfl, sx, _, dxs', _, _, rfl, k1, T.k_Shape, T.n_Shape_fields, lk4, _, rfl, fa', _, rfl, dg, ?_⟩
    obtain ⟨dxf, tvf, naf, faf, saf, f1, _⟩ := id v2.1
    have gsf : good sf.tr := by rw [v3]; exact gf
    -- is it plain
    refine ⟨_, rfl, pf, dxf, _, rfl, f1, pf, sf, _, rfl, v2, gsf, fun G1 t1 => ⟨_, rfl, ?_⟩⟩
    have L1 := L.to t1
    rw [v3]
    have ha1 := L1.same _ _ ha
    have fin : ∀ {G : Hp} {N' : Pg} {cs' : List (Str × Cell)}, Lp (C3 K) Z H0 M x dx sx g tk cd is (i + 1) G N' cs' → tAsg (tOp (rI0 fun i j => V.int (i + j)) (tVar 4) (tProp (He.ga K "Shape") (sp_shP (He.ga K "Shape") fun t => .int (t.plains : Nat)) [] E0 (tVar 6))) (gName 4) ⟨fun σ H => ∃ y5 y6 N cs, σ = [some (.ref x), some (.ref sx), some (.ref a), some .non, some (.int (atP g (i + 1) : Nat)), y5, y6] ∧ Lp (C3 K) Z H0 M x dx sx g tk cd is (i + 1) H N cs, Q, fun _ H' => Q .non H', fun σ H => ∃ y5 y6 N cs, σ = [some (.ref x), some (.ref sx), some (.ref a), some .non, some (.int (atP g (i + 1) : Nat)), y5, y6] ∧ Lp (C3 K) Z H0 M x dx sx g tk cd is (i + 1) H N cs⟩ [some (.ref x), some (.ref sx), some (.ref a), some .non, some (.int (atP g i : Nat)), some (.str wd), some (.ref pf)] G := by
      intro G N' cs' L'
      obtain ⟨pf2, sf2, u1, u2, u3⟩ := ShL.field L'.sh.2 hm (good_fields gd).2
      have u3 : sf2.tr = t := u3
      rw [v1] at u1
      cases u1
      obtain ⟨dx2, _, _, _, _, w1, _⟩ := id u2.1
      refine ⟨_, rfl, _, rfl, pf, dx2, _, rfl, w1, pf, sf2, _, rfl, u2, by rw [u3]; exact gf, fun G3 t3 => ⟨_, _, rfl, rfl, ?_⟩⟩
      refine ⟨some (.str wd), some (.ref pf), N', cs', ?_, L'.to t3⟩
      have ea : ((atP g i : Nat) : Int) + ((sf2.tr.plains : Nat) : Int) = ((atP g (i + 1) : Nat) : Int) := by rw [u3, an]; omega
      show ([some (V.ref x), some (V.ref sx), some (V.ref a), some V.non, some (V.int (((atP g i : Nat) : Int) + ((sf2.tr.plains : Nat) : Int))), some (V.str wd), some (V.ref pf)] : List (Option V)) = _
      rw [ea]
    cases et : t.isNil with
    | true =>
      have e0 : t = .nil := Tr.nil_of et
      subst e0
      have al3 : atP g i < is.length := by have : (Tr.nil).plains = 1 := rfl; omega
      obtain ⟨j, hj⟩ : ∃ j, is[atP g i]? = some j := ⟨_, List.getElem?_eq_getElem al3⟩
      refine iteT ⟨_, rfl, _, rfl, a, _, _, .int j, rfl, rfl, .inl (.inl ha1), atI_nat (by rw [List.getElem?_map, hj]; rfl), ?_⟩
      refine ⟨_, rfl, x, _, dx, _, _, rfl, L1.hx, T.k_Part, T.n_Part_cells, lkC, _, rfl, cd, _, rfl, DPut.k (k := .inr wd) L1.hcd ?_, ?_⟩
      · have := L1.csk.len
        rw [List.length_take] at this
        unfold kvs
        rw [List.length_map]
        have h3 := (good_fields gd)
        exact sz6 (by have := g.tr.fields_len; omega)
      exact fin (L1.intPut gd ncd0 hm hj)
    | false =>
      refine iteF ⟨_, rfl, _, rfl, _, rfl, _, rfl, _, rfl, _, rfl, pf, dxf, _, rfl, t1 _ _ f1, pf, sf, _, rfl, v2.kz (kz_of t1), gsf, fun G2 t2 => ⟨_, _, rfl, rfl, _, rfl, ?_⟩⟩
      have L2 := L1.to t2
      have ecut : cutV (is.map V.int) (some ((atP g i : Nat) : Int)) (some (((atP g i : Nat) : Int) + ((sf.tr.plains : Nat) : Int))) = ((is.drop (atP g i)).take t.plains).map V.int := by
        rw [v3, show ((atP g i : Nat) : Int) + ((t.plains : Nat) : Int) = ((atP g i + t.plains : Nat) : Int) by omega, cut_mid (by omega) (by rw [List.length_map]; exact al2), show atP g i + t.plains - atP g i = t.plains by omega, List.map_take, List.map_drop]
      refine sl_any (L2.same _ _ ha) ecut fun b G3 t3 hb _ x' dx' nx' ndx' hne' => ?_
      have L3 := L2.to t3
      obtain ⟨pf3, sf3, u1, u2, u3⟩ := ShL.field L3.sh.2 hm (good_fields gd).2
      have u3 : sf3.tr = t := u3
      rw [v1] at u1
      cases u1
      refine ⟨G3, Zc1 Z cd, N, x', dx', pf, sf3, .ref b, rfl, rfl, nx', ndx', hne', L3.ok, u2, by rw [u3]; exact gf, by rw [u3]; exact et, by rw [u3]; show t.depth < d; omega, .inl ⟨b, (is.drop (atP g i)).take t.plains, rfl, hb, ?_, fun N' G4 md4 => ⟨rfl, ?_⟩⟩⟩
      · rw [u3, List.length_take, List.length_drop]
        omega
      have L4 := L3.made md4
      refine ⟨_, rfl, x, _, dx, _, _, rfl, L4.hx, T.k_Part, T.n_Part_cells, lkC, _, rfl, cd, _, rfl, DPut.k (k := .inr wd) L4.hcd ?_, ?_⟩
      · have := L4.csk.len
        rw [List.length_take] at this
        unfold kvs
        rw [List.length_map]
        exact sz6 (by have := g.tr.fields_len; omega)
      exact fin (L3.madePut md4 gd ncd0 hm et u3 rfl)
end
end Lx

namespace Pt
open PySem PySem.Spec PyProof.Rows L2 Ub Ur Ug Ue Up Uo Vk Ve Wb
/-! ### going down a path -/
theorem wfp_mem : ∀ {t : Tr} {m : List Str × Tr}, m ∈ wfp t → ∃ f ∈ t.fields, ∃ m' ∈ wpaths f.2, m = (f.1 :: m'.1, m'.2)
  | .nil, m, h => nomatch h
  | .cons w t r, m, h => by
    rcases List.mem_append.mp h with h | h
    · obtain ⟨m', hm, rfl⟩ := List.mem_map.mp h
      exact ⟨(w, t), List.mem_cons_self .., m', hm, rfl⟩
    · obtain ⟨f, hf, m', hm, e⟩ := wfp_mem h
      exact ⟨f, List.mem_cons_of_mem _ hf, m', hm, e⟩
theorem wp_cons {t u : Tr} {w : Str} {ws : List Str} (h : (w :: ws, u) ∈ wpaths t) : ∃ f ∈ t.fields, f.1 = w ∧ (ws, u) ∈ wpaths f.2 := by
  rcases List.mem_cons.mp h with e | h
  · cases e
  · obtain ⟨f, hf, m', hm, e⟩ := wfp_mem h
    injection e with e1 e2
    injection e1 with e3 e4
    refine ⟨f, hf, e3.symm, ?_⟩
    rw [e4, e2]
    exact hm
theorem wp_nil {t u : Tr} (h : ([], u) ∈ wpaths t) : u = t := by
  rcases List.mem_cons.mp h with e | h
  · exact (Prod.mk.inj e).2
  · obtain ⟨f, hf, m', hm, e⟩ := wfp_mem h
    cases (Prod.mk.inj e).1
theorem walk_snoc {M : Pg} {q : Addr} {n : Nd} {w : Str} {c' : Cell} (hq : M q = some n) (hl : n.cs.lookup w = some c') : ∀ {ws : List Str} {c : Cell}, walk M c ws = some (.part q) → walk M c (ws ++ [w]) = some c'
  | [], c, h => by
    have e : c = .part q := Option.some.inj h
    rw [e]
    show (match M q with | none => none | some n => match n.cs.lookup w with | none => none | some c' => walk M c' []) = _
    rw [hq]
    show (match n.cs.lookup w with | none => none | some c' => walk M c' []) = _
    rw [hl]
    rfl
  | v :: ws, c, h => by
    cases c with
    | int i => cases h
    | part p =>
      have h : (match M p with | none => none | some n => match n.cs.lookup v with | none => none | some c' => walk M c' ws) = some (.part q) := h
      show (match M p with | none => none | some n => match n.cs.lookup v with | none => none | some c' => walk M c' (ws ++ [w])) = _
      cases e1 : M p with
      | none => rw [e1] at h; cases h
      | some m =>
        rw [e1] at h
        have h : (match m.cs.lookup v with | none => none | some c' => walk M c' ws) = some (.part q) := h
        show (match m.cs.lookup v with | none => none | some c' => walk M c' (ws ++ [w])) = _
        cases e2 : m.cs.lookup v with
        | none => rw [e2] at h; cases h
        | some c2 =>
          rw [e2] at h
          exact walk_snoc hq hl (ws := ws) (c := c2) h
/-- so far on the way -/
structure Way (M : Pg) (p : Addr) (m : List Str × Tr) (i : Nat) (c : Cell) : Prop where
  wk : walk M (.part p) (m.1.take i) = some c
  rest : ∃ t, (m.1.drop i, m.2) ∈ wpaths t ∧ Fits M t c
theorem Way.start {M : Pg} {p : Addr} {n : Nd} {m : List Str × Tr} (hp : M p = some n) (hn : n.g.tr.isNil = false) (hm : m ∈ wpaths n.g.tr) : Way M p m 0 (.part p) := ⟨rfl, n.g.tr, hm, hn, n, hp, rfl⟩
theorem Way.next {C : Cp3} {Z : Addr → Prop} {H : Hp} {M : Pg} (h : PgOk C Z H M) {p : Addr} {m : List Str × Tr} {i : Nat} {c : Cell} {w : Str} (W : Way M p m i c) (hi : m.1[i]? = some w) :
    ∃ q n c', c = .part q ∧ M q = some n ∧ DGet H n.cd (.str w) (some c'.v) ∧ Way M p m (i + 1) c' := by
  obtain ⟨wk, t, hm, hf⟩ := W
  have hlt : i < m.1.length := (List.getElem?_eq_some_iff.mp hi).1
  rw [List.drop_eq_getElem_cons hlt, (List.getElem?_eq_some_iff.mp hi).2] at hm
  obtain ⟨f, hff, rfl, hm2⟩ := wp_cons hm
  cases c with
  | int j =>
    have e : t = .nil := Tr.nil_of hf
    rw [e] at hff
    exact nomatch hff
  | part q =>
    obtain ⟨hn, n, hq, et⟩ := hf
    rw [← et] at hff
    have N := h.nd q n hq
    obtain ⟨c', k1, k2, k3⟩ := N.cell hff
    refine ⟨q, n, c', rfl, hq, k3, ?_, f.2, hm2, k2⟩
    rw [List.take_add_one, hi]
    exact walk_snoc hq (lookup_at N.nodup k1) wk
theorem Way.done {M : Pg} {p : Addr} {m : List Str × Tr} {c : Cell} (W : Way M p m m.1.length c) : walk M (.part p) m.1 = some c ∧ Fits M m.2 c := by
  obtain ⟨wk, t, hm, hf⟩ := W
  rw [List.take_length] at wk
  rw [List.drop_length] at hm
  rw [wp_nil hm]
  exact ⟨wk, hf⟩
theorem flat_le {α β : Type} (f : α → List β) (l : List α) (i : Nat) : ((l.take i).flatMap f).length ≤ (l.flatMap f).length := by
  have e : l.flatMap f = (l.take i).flatMap f ++ (l.drop i).flatMap f := by rw [← List.flatMap_append, List.take_append_drop]
  rw [e, List.length_append]
  omega
theorem no_pcont {P : Program} {w : World} {K : PySem.W.Frag} {mg : Str → Option Value} {base : Heap} {k : Nat} {f : Addr} {fd : FuncData} {x : Str} {C : Cp3} : FnOk P w K mg base CX0 k f fd [x] (sp_pcont C 0) :=
  ⟨fun vs H Q E h => by obtain ⟨_, _, _, _, rfl, _⟩ := h; rfl, fun A outer s H args us vs Q E _ _ _ _ h => by
    obtain ⟨_, _, _, _, _, _, _, h, _⟩ := h
    exact absurd h (Nat.not_lt_zero _)⟩
end Pt

namespace Lx
open PySem PySem.Spec PyProof.Rows L2 Ub Ur Ug Ue Up Uo Ve Va Vk Wb Pt
section
variable {P : Program} {w : World} {K : PySem.W.Frag} {mg : Str → Option Value} {base : Heap}
theorem sc_Part_content : FnScope ["self", "found", "name", "cell"] ["self"] (defScope s_Part_content) := ⟨rfl, rfl, rfl, by decide +kernel, rfl, by decide +kernel, by decide +kernel⟩
theorem ok_pcont {fd : FuncData} (F : FunD K "content" "Part.content" (defArgs s_Part_content) (defBody s_Part_content) (defScope s_Part_content) [] [] (gAd K "Part" "content") fd) (T : Tx K mg) (hb : Binds K fd ["self"] []) : ∀ d, FnOk P w K mg base CX0 (2 * d) (gAd K "Part" "content") fd ["self"] (sp_pcont (C3 K) d)
  | 0 => no_pcont
  | d + 1 => by
    have p_Part_content : CalP P w K mg base (2 * d) (He.ga K "Part") "content" (sp_pcont (C3 K) d) := ⟨_, _, fd, T.p_Part_content.ex, T.k_Part, ok_pcont F T hb d, hb⟩
    have ok := F.ok (k := 2 * d + 1) (CX := CX0) (P := P) (w := w) (mg := mg) (base := base) (sp := sp_pcont (C3 K) (d + 1)) sc_Part_content (fun vs H Q E h => by obtain ⟨_, _, _, _, rfl, _⟩ := h; rfl) (fun cdv A outer s H vs Q E hr h => ?_)
    · exact ok
    obtain ⟨Z, M, p, n, rfl, ok0, hp, hd, q⟩ := h
    refine ⟨_, PSs.nox (pss_cons (ps_set (i := 1) sc_Part_content.nd rfl (by first | exact Or.inl rfl | exact Or.inr rfl) (pe_lst pa_nil))
      (pss_cons (ps_for PassesOwn.never rfl (pi_tupK K (pe_fldK K (pe_fldK K (pv 0) rfl) rfl)) (pg_name (i := 2) sc_Part_content.nd rfl (by first | exact Or.inl rfl | exact Or.inr rfl))
        (pss_cons (ps_set (i := 3) sc_Part_content.nd rfl (by first | exact Or.inl rfl | exact Or.inr rfl) (pe_dget (units1 hr) (pe_fldK K (pv 0) rfl) (pv 2) (fun _ _ => rfl)))
          (pss_one (ps_if (pt_val (pe_callB (call_isiK' K) (by rfl) T.isinstance (by decide +kernel) (pa_cons (pv 3) (pa_cons (pe_globR (by rfl) T.g_Part) pa_nil))))
            (pss_one (ps_expr (pe_bmK K PySem.F.plainAttrs_list PySem.F.slot_list_extend PySem.F.type_list_extend mt_extT (pv 1) (pa_cons (pe_propP p_Part_content (hr.mono (by omega)) (pv 3)) pa_nil))))
            (pss_one (ps_expr (pe_bmK K PySem.F.plainAttrs_list PySem.F.slot_list_append PySem.F.type_list_append mt_append (pv 1) (pa_cons (pv 3) pa_nil))))))))
      (pss_one (ps_ret (pe_callTy (call_tuple_ofK K) (by rfl) T.tuple (by decide +kernel) (pa_cons (pv 1) pa_nil)))))), ?_⟩
    have N := ok0.nd p n hp
    have hcl := content_len ok0 hp
    rw [content_eq ok0 hp] at hcl
    have h5 := N.gd.2.2
    have h5' : n.g.tr.plains ≤ 5 := h5
    obtain ⟨dxs, tvs, na, fa, sa, h1, h2, h3, _⟩ := id N.sh.1
    refine ⟨Nat.zero_le _, fun D nD => ?_⟩
    have sD := same_upd (o := .lst []) nD
    have eD : (upd H D (.lst [])) D = some (.lst []) := upd_same
    dsimp only [gName]
    generalize upd H D (.lst []) = H1 at *
    refine ⟨_, rfl, p, _, n.dx, _, _, rfl, sD _ _ N.at_, T.k_Part, T.n_Part_shape, lkS, n.x, _, dxs, _, _, rfl, sD _ _ h1, T.k_Shape, T.n_Shape_names, lk5, na, rfl, ⟨_, .inl (.inl (sD _ _ h3))⟩, ?_⟩
    refine for_tup (K := K) (a := na) (xs := n.g.tr.fields.map fun m => V.str m.1) (fun i σ HH => ∃ y2 y3, σ = [some (.ref p), some (.ref D), y2, y3] ∧ Same H HH ∧ HH D = some (.lst (((n.cs.take i).flatMap fun c => cellC M 4 c.2).map V.int))) ?_ (fun i σ HH _ p => ?_) (fun i y σ HH hy pv => ?_) (fun σ HH p => ?_)
    · exact ⟨_, _, rfl, sD, eD⟩
    · obtain ⟨_, _, _, s, _⟩ := p
      exact .inl (.inl (s _ _ h3))
    rotate_left
    · obtain ⟨y2, y3, rfl, sH, hD⟩ := p
      have lc : (n.g.tr.fields.map fun m => V.str m.1).length = n.cs.length := by rw [List.length_map, N.cs.len]
      rw [lc, List.take_length, ← content_eq ok0 hp] at hD
      refine ⟨_, rfl, D, _, rfl, .inl ⟨.inl (.inl hD), fun T1 nT1 => ?_⟩⟩
      exact q T1 _ (sH.trans (same_upd nT1)) (sH.free nT1) upd_same
    obtain ⟨y2, y3, rfl, sH, hD⟩ := pv
    have hi : i < n.g.tr.fields.length := by
      have := (List.getElem?_eq_some_iff.mp hy).1
      rwa [List.length_map] at this
    have hm : n.g.tr.fields[i]? = some n.g.tr.fields[i] := List.getElem?_eq_getElem hi
    generalize n.g.tr.fields[i] = m at hm
    rw [List.getElem?_map, hm] at hy
    cases hy
    obtain ⟨c, k1, k2⟩ := N.cs.get hm
    have dg : DGet HH n.cd (.str m.1) (some c.v) := by
      have := DGet.k (H := HH) (a := n.cd) (k := .inr m.1) (sH _ _ N.cells)
      rw [kvs_val N.nodup (List.mem_of_getElem? k1)] at this
      exact this
    have e6 : (n.cs.take (i + 1)).flatMap (fun c => cellC M 4 c.2) = (n.cs.take i).flatMap (fun c => cellC M 4 c.2) ++ cellC M 4 c := by
      rw [List.take_add_one, k1, List.flatMap_append]
      simp
    have l1 := flat_le (fun c : Str × Cell => cellC M 4 c.2) n.cs i
    have l2 := flat_le (fun c : Str × Cell => cellC M 4 c.2) n.cs (i + 1)
    refine ⟨_, rfl, p, _, n.dx, _, _, rfl, sH _ _ N.at_, T.k_Part, T.n_Part_cells, lkC, _, rfl, n.cd, _, rfl, dg, ?_⟩
    cases c with
    | int j =>
      refine ⟨_, rfl, _, _, _, _, false, rfl, .own _, .base (.int j), T.kp_int, false, rfl, iteF ?_⟩
      refine ⟨_, rfl, .inl ⟨rfl, _, .inl (.inl hD)⟩, _, rfl, D, _, _, rfl, rfl, hD, sz6 (by rw [List.length_map]; omega), ?_⟩
      refine ⟨_, _, rfl, same_mut sH nD, ?_⟩
      rw [upd_same, e6, List.map_append]
      rfl
    | part r =>
      obtain ⟨k3, m2, k4, k5⟩ := k2
      have Nr := ok0.nd r m2 k4
      refine ⟨_, rfl, _, _, _, _, true, rfl, .own _, T.tyP.ty T.k_Part (sH _ _ Nr.at_), T.tyP.kit, true, rfl, iteT ?_⟩
      have dl := Tr.depth_lt (List.mem_of_getElem? hm)
      refine ⟨_, rfl, .inl ⟨rfl, _, .inl (.inl hD)⟩, _, rfl, r, m2.dx, _, rfl, sH _ _ Nr.at_, Z, M, r, m2, rfl, ok0.same sH, k4, by rw [k5]; omega, fun D2 H' s' nD2 hD2 => ?_⟩
      have hD' := s' _ _ hD
      refine ⟨D, D2, _, _, rfl, rfl, hD', hD2, sz4 ?_, ?_⟩
      · rw [e6, List.length_append] at l2
        rw [List.length_map, List.length_map]
        show _ + (cellC M 4 (.part r)).length ≤ _
        omega
      · refine ⟨_, _, rfl, same_mut (sH.trans s') nD, ?_⟩
        rw [upd_same, e6, List.map_append]
        rfl
theorem sc_Part___contains__ : FnScope ["self", "path"] ["self", "path"] (defScope s_Part___contains__) := ⟨rfl, rfl, rfl, by decide +kernel, rfl, by decide +kernel, by decide +kernel⟩
theorem ok_pcon {fd : FuncData} (F : Df K ("Part", some "__contains__") "__contains__" "Part.__contains__" s_Part___contains__ [] fd) (T : Tx K mg) (k_Shape_contains : CalK P w K mg base CX0 1 (He.ga K "Shape") "__contains__" ["self", "path"] (sp_con K (He.ga K "Shape"))) :
    FnOk P w K mg base CX0 3 (He.fAd K ("Part", some "__contains__")) fd ["self", "path"] (sp_pcon K (C3 K)) := by
  refine F.ok sc_Part___contains__ (fun vs H Q E h => by obtain ⟨_, _, _, _, _, rfl, _⟩ := h; rfl) (fun cdv A outer s H vs Q E hr h => ?_)
  obtain ⟨Z, M, p, n, y, rfl, ok0, hp, h⟩ := h
  refine ⟨_, PSs.nox (pss_one (ps_ret (pe_cmpR (op_inO k_Shape_contains (E := E0) (fun _ => pas0) (hr.mono (by omega))) (pv 1) (pe_fldK K (pv 0) rfl) (by rfl)))), ?_⟩
  have N := ok0.nd p n hp
  obtain ⟨dxs, tvs, na, fa, sa, h1, _⟩ := id N.sh.1
  refine ⟨_, rfl, _, rfl, p, _, n.dx, _, _, rfl, N.at_, T.k_Part, T.n_Part_shape, lkS, n.x, dxs, _, rfl, h1, n.x, n.g, _, y, rfl, N.sh, N.gd, ?_⟩
  rcases h with ⟨z, rfl, q⟩ | ⟨hno, q⟩
  · exact .inl ⟨z, rfl, _, rfl, q⟩
  · exact .inr ⟨hno, _, rfl, q⟩
theorem sc_Part___getitem__ : FnScope ["self", "path", "here", "word"] ["self", "path"] (defScope s_Part___getitem__) := ⟨rfl, rfl, rfl, by decide +kernel, rfl, by decide +kernel, by decide +kernel⟩
theorem ok_pget {fd : FuncData} (F : Df K ("Part", some "__getitem__") "__getitem__" "Part.__getitem__" s_Part___getitem__ [] fd) (T : Tx K mg) (k_Shape_contains : CalK P w K mg base CX0 1 (He.ga K "Shape") "__contains__" ["self", "path"] (sp_con K (He.ga K "Shape")))
    (c_words_of : Cal P w K mg base 1 "words_of" ["path"] sp_words) (x_BadPath : CalX P w K mg base 1 "BadPath" (He.ga K "BadPath") "path") :
    FnOk P w K mg base (CX P w) 4 (He.fAd K ("Part", some "__getitem__")) fd ["self", "path"] (sp_pget K (C3 K) (He.ga K "BadPath")) := by
  refine F.ok sc_Part___getitem__ (fun vs H Q E h => by obtain ⟨_, _, _, _, _, rfl, _⟩ := h; rfl) (fun cdv A outer s H vs Q E hr h => ?_)
  obtain ⟨Z, M, p, n, y, rfl, ok0, hp, h⟩ := h
  refine ⟨_, (pss_cons (ps_if (pt_cmpR (op_notInO k_Shape_contains (E := E0) (fun _ => pas0) (hr.mono (by omega))) (pv 1) (pe_fldK K (pv 0) rfl) (by rfl))
        (pss_one (ps_raiseX x_BadPath rfl (takes_of rfl rfl rfl rfl) (hr.mono (by omega)) (by rfl) (pv 1)))
        pss_nil)
      (pss_cons (ps_set (i := 2) sc_Part___getitem__.nd rfl (by first | exact Or.inl rfl | exact Or.inr rfl) (pv 0))
      (pss_cons (ps_for (passes_of rfl) rfl (pi_listK K (pe_cal c_words_of (hr.mono (by omega)) (by rfl) (pa_cons (pv 1) pa_nil))) (pg_name (i := 3) sc_Part___getitem__.nd rfl (by first | exact Or.inl rfl | exact Or.inr rfl))
        (pss_one (ps_set (i := 2) sc_Part___getitem__.nd rfl (by first | exact Or.inl rfl | exact Or.inr rfl) (pe_dget (units1 hr) (pe_fldK K (pv 2) rfl) (pv 3) (fun _ _ => rfl)))))
      (pss_one (ps_ret (pv 2)))))), ?_⟩
  have N := ok0.nd p n hp
  obtain ⟨dxs, tvs, na, fa, sa, h1, _⟩ := id N.sh.1
  refine ⟨_, rfl, _, rfl, p, _, n.dx, _, _, rfl, N.at_, T.k_Part, T.n_Part_shape, lkS, n.x, dxs, _, rfl, h1, n.x, n.g, _, y, rfl, N.sh, N.gd, ?_⟩
  rcases h with ⟨m, hm, rfl, q⟩ | ⟨hno, q⟩
  rotate_left
  · rcases hno with hno | ⟨z, rfl, hz⟩
    · exact .inr ⟨hno, _, rfl, _, rfl, iteT ⟨_, rfl, mkX fun e H2 s2 ne he => q e H2 s2 ne he⟩⟩
    · refine .inl ⟨z, rfl, _, rfl, _, rfl, ?_⟩
      rw [decide_eq_false hz]
      exact iteT ⟨_, rfl, mkX fun e H2 s2 ne he => q e H2 s2 ne he⟩
  · have hz : ptext m.1 ∈ pks n.g.tr := List.mem_map.mpr ⟨_, words_path hm, rfl⟩
    refine .inl ⟨ptext m.1, rfl, _, rfl, _, rfl, ?_⟩
    rw [decide_eq_true hz]
    refine iteF ⟨_, rfl, _, rfl, m.1, rfl, wpaths_words (good_W N.gd) m hm, by have := ptext_len N.gd hm; omega, fun D H1 s1 nD hD => ⟨D, rfl, ⟨_, .inl (.inl hD)⟩, ?_⟩⟩
    refine for_list (K := K) (a := D) (xs := m.1.map V.str) (fun i σ HH => ∃ y3 c, σ = [some (.ref p), some (.str (ptext m.1)), some (Cell.v c), y3] ∧ Same H1 HH ∧ Way M p m i c) ?_ (fun i σ HH _ pv => ?_) (fun i y σ HH hy pv => ?_) (fun σ HH pv => ?_)
    · exact ⟨_, .part p, rfl, Same.refl _, Way.start hp N.rc hm⟩
    · obtain ⟨_, _, _, s, _⟩ := pv
      exact .inl (.inl (s _ _ hD))
    · obtain ⟨y3, c, rfl, sH, W⟩ := pv
      have ok1 := ok0.same (s1.trans sH)
      cases hw : m.1[i]? with
      | none => rw [List.getElem?_map, hw] at hy; cases hy
      | some wd =>
        rw [List.getElem?_map, hw] at hy
        cases hy
        obtain ⟨r, nr, c', rfl, hr', dg, W'⟩ := W.next ok1 hw
        exact ⟨_, rfl, r, _, nr.dx, _, _, rfl, (ok1.nd r nr hr').at_, T.k_Part, T.n_Part_cells, lkC, _, rfl, nr.cd, _, rfl, dg, _, c', rfl, sH, W'⟩
    · obtain ⟨y3, c, rfl, sH, W⟩ := pv
      rw [List.length_map] at W
      obtain ⟨w1, w2⟩ := W.done
      exact ⟨_, rfl, q c HH w1 w2 (s1.trans sH)⟩
end
end Lx

namespace Pt
open PySem PySem.Spec PyProof.Rows L2 Ub Ur Ug Ue Up Uo Vk Ve Wb
theorem Way.last {M : Pg} {p : Addr} {ds : List Str} {w : Str} {u : Tr} {c : Cell} (W : Way M p (ds ++ [w], u) ds.length c) : ∃ q n, c = .part q ∧ M q = some n ∧ (w, u) ∈ n.g.tr.fields ∧ walk M (.part p) ds = some (.part q) := by
  obtain ⟨wk, t, hm, hf⟩ := W
  have e1 : (ds ++ [w]).take ds.length = ds := by simp
  have e2 : (ds ++ [w]).drop ds.length = [w] := by simp
  have wk2 : walk M (.part p) ((ds ++ [w]).take ds.length) = some c := wk
  have hm : ((ds ++ [w]).drop ds.length, u) ∈ wpaths t := hm
  rw [e1] at wk2
  rw [e2] at hm
  obtain ⟨f, hff, rfl, hm2⟩ := wp_cons hm
  have eu := wp_nil hm2
  cases c with
  | int j =>
    have e : t = .nil := Tr.nil_of hf
    rw [e] at hff
    exact nomatch hff
  | part q =>
    obtain ⟨hn, n, hq, et⟩ := hf
    refine ⟨q, n, rfl, hq, ?_, wk2⟩
    rw [et, eu]
    exact hff
/-- a value that does not fit to a field of a tree -/
def BadVal (H : Hp) (M : Pg) (t : Tr) (v : V) : Prop := (t.isNil = true ∧ ((∃ d, DtV [] H v d ∧ isIntD d = false) ∨ ∃ q n, v = .ref q ∧ M q = some n)) ∨ (t.isNil = false ∧ ((∃ d, DtV [] H v d) ∨ ∃ q n, v = .ref q ∧ M q = some n ∧ n.g.tr ≠ t))
def sp_pset (K : PySem.W.Frag) (C : Cp3) (BP BV : Addr) : Sp := fun vs H Q E => ∃ Z M p n y v, vs = [.ref p, y, v] ∧ PgOk C Z H M ∧ M p = some n ∧
  (((NoP K H n.g.tr y ∨ y = .str ".") ∧ ∀ e H', Same H H' → H e = none → H' e = some (.xd [("path", y)]) → E (.ref BP) (some e) H') ∨
   (∃ m ∈ wpaths n.g.tr, m.1 ≠ [] ∧ y = .str (ptext m.1) ∧
     ((BadVal H M m.2 v ∧ ∀ e H', Same H H' → H e = none → H' e = some (.xd [("value", v)]) → E (.ref BV) (some e) H') ∨
      (∃ c, v = Cell.v c ∧ Fits M m.2 c ∧ ∀ H1 ds w q nq, Same H H1 → m.1 = ds ++ [w] → walk M (.part p) ds = some (.part q) → M q = some nq → (w, m.2) ∈ nq.g.tr.fields → Q .non (upd H1 nq.cd (.dK (putK (kvs nq.cs) (.inr w) c.v)))))))
def sp_copied (C : Cp3) : Sp := fun vs H Q _ => ∃ Z M p n, vs = [.ref p] ∧ PgOk C Z H M ∧ M p = some n ∧ ∀ H1 H' M' x, Same H H1 → Made C Z H1 H' M M' x n.x n.g (content M p) → Q (.ref x) H'
end Pt

namespace Lx
open PySem PySem.Spec PyProof.Rows L2 Ub Ur Ug Ue Up Uo Ve Va Vk Wb Pt
section
variable {P : Program} {w : World} {K : PySem.W.Frag} {mg : Str → Option Value} {base : Heap}
theorem sc_Part_copied : FnScope ["self"] ["self"] (defScope s_Part_copied) := ⟨rfl, rfl, rfl, by decide +kernel, rfl, by decide +kernel, by decide +kernel⟩
theorem ok_copied {fd : FuncData} (F : Df K ("Part", some "copied") "copied" "Part.copied" s_Part_copied [] fd) (T : Tx K mg) (m_Part : CalMD P w K mg base 15 "Part" (He.ga K "Part") ["self", "shape", "values", "cells"] [V.non] (sp_part (C3 K) (He.ga K "BadValues") 4))
    (p_Part_content : CalP P w K mg base 8 (He.ga K "Part") "content" (sp_pcont (C3 K) 4)) : FnOk P w K mg base CX0 17 (He.fAd K ("Part", some "copied")) fd ["self"] (sp_copied (C3 K)) := by
  refine F.ok sc_Part_copied (fun vs H Q E h => by obtain ⟨_, _, _, _, rfl, _⟩ := h; rfl) (fun cdv A outer s H vs Q E hr h => ?_)
  obtain ⟨Z, M, p, n, rfl, ok0, hp, q⟩ := h
  refine ⟨_, PSs.nox (pss_one (ps_ret (pe_makeD m_Part (fun _ => passE0) (hr.mono (by omega)) (by rfl) (pa_cons (pe_fldK K (pv 0) rfl) (pa_cons (pe_propP p_Part_content (hr.mono (by omega)) (pv 0)) pa_nil))))), ?_⟩
  have N := ok0.nd p n hp
  have d3 := (good_has N.gd).1
  refine ⟨_, rfl, p, _, n.dx, _, _, rfl, N.at_, T.k_Part, T.n_Part_shape, lkS, _, rfl, p, n.dx, _, rfl, N.at_, Z, M, p, n, rfl, ok0, hp, by omega, fun D H1 s1 nD hD x dx nx ndx hne => ?_⟩
  refine ⟨H1, Z, M, x, dx, n.x, n.g, .ref D, rfl, rfl, nx, ndx, hne, ok0.same s1, N.sh.kz (kz_of s1), N.gd, N.rc, by omega, .inl ⟨D, content M p, rfl, hD, content_len ok0 hp, fun M' H' md => ⟨rfl, q H1 H' M' x s1 md⟩⟩⟩
theorem sc_Part___setitem__ : FnScope ["self", "path", "value", "field", "here", "words", "word"] ["self", "path", "value"] (defScope s_Part___setitem__) := ⟨rfl, rfl, rfl, by decide +kernel, rfl, by decide +kernel, by decide +kernel⟩
theorem ok_pset {fd : FuncData} (F : Df K ("Part", some "__setitem__") "__setitem__" "Part.__setitem__" s_Part___setitem__ [] fd) (T : Tx K mg) (k_Shape_contains : CalK P w K mg base CX0 1 (He.ga K "Shape") "__contains__" ["self", "path"] (sp_con K (He.ga K "Shape")))
    (k_Shape_getitem : CalK P w K mg base (CX P w) 4 (He.ga K "Shape") "__getitem__" ["self", "path"] (sp_get K (He.ga K "Shape") (He.ga K "BadPath"))) (k_Shape_eq : CalK P w K mg base CX0 1 (He.ga K "Shape") "__eq__" ["self", "other"] (sp_eqS K (He.ga K "Shape")))
    (p_Shape_is_plain : CalP P w K mg base 1 (He.ga K "Shape") "is_plain" (sp_shP (He.ga K "Shape") fun t => .bl t.isNil)) (c_is_whole : Cal P w K mg base 1 "is_whole" ["value"] (sp_isw K (He.ga K "Part")))
    (c_words_of : Cal P w K mg base 1 "words_of" ["path"] sp_words) (x_BadPath : CalX P w K mg base 1 "BadPath" (He.ga K "BadPath") "path") (x_BadValue : CalX P w K mg base 1 "BadValue" (He.ga K "BadValue") "value") :
    FnOk P w K mg base (CX P w) 7 (He.fAd K ("Part", some "__setitem__")) fd ["self", "path", "value"] (sp_pset K (C3 K) (He.ga K "BadPath") (He.ga K "BadValue")) := by
  refine F.ok sc_Part___setitem__ (fun vs H Q E h => by obtain ⟨_, _, _, _, _, _, rfl, _⟩ := h; rfl) (fun cdv A outer s H vs Q E hr h => ?_)
  obtain ⟨Z, M, p, n, y, v, rfl, ok0, hp, h⟩ := h
  refine ⟨_, (pss_cons (ps_if (PW.pt (pw_or (pt_cmpR (op_notInO k_Shape_contains (E := E0) (fun _ => pas0) (hr.mono (by omega))) (pv 1) (pe_fldK K (pv 0) rfl) (by rfl)) (pw_or1 (pt_cmpR op_eq (pv 1) pe_str (nomark _)))))
        (pss_one (ps_raiseX x_BadPath rfl (takes_of rfl rfl rfl rfl) (hr.mono (by omega)) (by rfl) (pv 1)))
        pss_nil)
      (pss_cons (ps_set (i := 3) sc_Part___setitem__.nd rfl (by first | exact Or.inl rfl | exact Or.inr rfl) (pe_ixO k_Shape_getitem (fun _ => passE0) (hr.mono (by omega)) (pe_fldK K (pv 0) rfl) (pv 1) (fun _ _ => rfl)))
      (pss_cons (ps_if (PW.pt (pw_and (pt_val (pe_propP p_Shape_is_plain (hr.mono (by omega)) (pv 3))) (pw_and1 (pt_not (pt_val (pe_cal c_is_whole (hr.mono (by omega)) (by rfl) (pa_cons (pv 2) pa_nil)))))))
        (pss_one (ps_raiseX x_BadValue rfl (takes_of rfl rfl rfl rfl) (hr.mono (by omega)) (by rfl) (pv 2)))
        pss_nil)
      (pss_cons (ps_if (PW.pt (pw_and (pt_not (pt_val (pe_propP p_Shape_is_plain (hr.mono (by omega)) (pv 3)))) (pw_and1 (pt_not (PW.pt (pw_and (pt_val (pe_callB (call_isiK' K) (by rfl) T.isinstance (by decide +kernel) (pa_cons (pv 2) (pa_cons (pe_globR (by rfl) T.g_Part) pa_nil)))) (pw_and1 (pt_cmpR (op_eqO k_Shape_eq T.nf (E := E0) (fun _ => pas0) (hr.mono (by omega)) hr.units0) (pe_fldK K (pv 2) rfl) (pv 3) (nomark _)))))))))
        (pss_one (ps_raiseX x_BadValue rfl (takes_of rfl rfl rfl rfl) (hr.mono (by omega)) (by rfl) (pv 2)))
        pss_nil)
      (pss_cons (ps_set (i := 4) sc_Part___setitem__.nd rfl (by first | exact Or.inl rfl | exact Or.inr rfl) (pv 0))
      (pss_cons (ps_set (i := 5) sc_Part___setitem__.nd rfl (by first | exact Or.inl rfl | exact Or.inr rfl) (pe_cal c_words_of (hr.mono (by omega)) (by rfl) (pa_cons (pv 1) pa_nil)))
      (pss_cons (ps_for (passes_of rfl) rfl (pi_listK K (pe_slice (sl_listK K) (pv 5) po_none (po_some (pe_un un_neg pe_int)))) (pg_name (i := 6) sc_Part___setitem__.nd rfl (by first | exact Or.inl rfl | exact Or.inr rfl))
        (pss_one (ps_set (i := 4) sc_Part___setitem__.nd rfl (by first | exact Or.inl rfl | exact Or.inr rfl) (pe_dget (units1 hr) (pe_fldK K (pv 4) rfl) (pv 6) (fun _ _ => rfl)))))
      (pss_one (ps_dput (units1 hr) (pe_fldK K (pv 4) rfl) (pe_ix (ix_listK K) (pv 5) (pe_un un_neg pe_int) (fun _ _ => rfl)) (pv 2) rfl))))))))), ?_⟩
  have N := ok0.nd p n hp
  obtain ⟨dxs, tvs, na, fa, sa, h1, _⟩ := id N.sh.1
  refine ⟨_, rfl, _, rfl, p, _, n.dx, _, _, rfl, N.at_, T.k_Part, T.n_Part_shape, lkS, n.x, dxs, _, rfl, h1, n.x, n.g, _, y, rfl, N.sh, N.gd, ?_⟩
  rcases h with ⟨hno, q⟩ | ⟨m, hm, hne, rfl, h⟩
  · rcases hno with (hno | ⟨z, rfl, hz⟩) | rfl
    · exact .inr ⟨hno, _, rfl, _, rfl, iteT (iteT ⟨_, rfl, mkX fun e H2 s2 ne he => q e H2 s2 ne he⟩)⟩
    · refine .inl ⟨z, rfl, _, rfl, _, rfl, ?_⟩
      rw [decide_eq_false hz]
      exact iteT (iteT ⟨_, rfl, mkX fun e H2 s2 ne he => q e H2 s2 ne he⟩)
    · refine .inl ⟨".", rfl, _, rfl, _, rfl, ?_⟩
      rw [decide_eq_true (show (".": Str) ∈ pks n.g.tr from List.mem_cons_self ..)]
      exact iteF ⟨_, rfl, rfl, _, rfl, iteY rfl ⟨_, rfl, mkX fun e H2 s2 ne he => q e H2 s2 ne he⟩⟩
  have hz : ptext m.1 ∈ pks n.g.tr := List.mem_map.mpr ⟨_, words_path hm, rfl⟩
  have hws := wpaths_words (good_W N.gd) m hm
  have hnd : ptext m.1 ≠ "." := by
    cases e : m.1 with
    | nil => exact absurd e hne
    | cons a b => exact ptext_ne (hws a (by rw [e]; exact List.mem_cons_self ..))
  refine .inl ⟨ptext m.1, rfl, _, rfl, _, rfl, ?_⟩
  rw [decide_eq_true hz]
  refine iteF ⟨_, rfl, rfl, _, rfl, iteN (fun e => hnd (V.str.inj e)) ?_⟩
  -- the field's shape
  have hm' : (ptext m.1, m.2) ∈ (gpaths n.x n.g).map (fun m => (m.1, m.2.2.tr)) := by rw [gpaths_tr]; exact words_path hm
  obtain ⟨m', hmm, em'⟩ := List.mem_map.mp hm'
  have e1 : m'.1 = ptext m.1 := congrArg Prod.fst em'
  have e2 : m'.2.2.tr = m.2 := congrArg Prod.snd em'
  have gm := wp_good N.gd hm
  have gm' : good m'.2.2.tr := by rw [e2]; exact gm
  have shm := shg_at N.sh m' hmm
  obtain ⟨dxm, tvm, nam, fam, sam, f1, _⟩ := id shm.1
  refine ⟨_, rfl, p, _, n.dx, _, _, rfl, N.at_, T.k_Part, T.n_Part_shape, lkS, _, rfl, n.x, dxs, _, rfl, h1, n.x, n.g, _, _, rfl, N.sh, N.gd, .inl ⟨m', hmm, by rw [e1], ?_⟩⟩
  refine ⟨_, rfl, m'.2.1, dxm, _, rfl, f1, m'.2.1, m'.2.2, _, rfl, shm, gm', fun H1 s1 => ⟨_, rfl, ?_⟩⟩
  rw [e2]
  -- the value
  have shm1 := shm.kz (kz_of s1)
  have f11 := s1 _ _ f1
  rcases h with ⟨hbad, q⟩ | ⟨c, rfl, hc, q⟩
  · have rs : ∀ {H2 : Hp}, Same H1 H2 → MkX (He.ga K "BadValue") "value" v H2 fun cls d H' => E cls d H' := fun {H2} s2 => mkX fun e H3 s3 ne he => q e H3 ((s1.trans s2).trans s3) ((s1.trans s2).free ne) he
    rcases hbad with ⟨hn, hv⟩ | ⟨hn, hv⟩
    · rw [hn]
      refine iteT ?_
      rcases hv with ⟨d, hd, hi⟩ | ⟨q', nq, rfl, hq⟩
      · exact ⟨_, rfl, v, rfl, .inl ⟨d, hd.same s1, _, rfl, by rw [hi]; exact iteT ⟨_, rfl, rs (Same.refl _)⟩⟩⟩
      · exact ⟨_, rfl, _, rfl, .inr ⟨T.tyP.ty T.k_Part (s1 _ _ (ok0.nd q' nq hq).at_), _, rfl, iteT ⟨_, rfl, rs (Same.refl _)⟩⟩⟩
    · rw [hn]
      refine iteF ?_
      refine ⟨_, rfl, m'.2.1, dxm, _, rfl, f11, m'.2.1, m'.2.2, _, rfl, shm1, gm', fun H2 s2 => ⟨_, rfl, ?_⟩⟩
      rw [e2, hn]
      refine iteT ?_
      have s02 := s1.trans s2
      rcases hv with ⟨d, hd⟩ | ⟨q', nq, rfl, hq, hne2⟩
      · obtain ⟨T0, t1, t2⟩ : ∃ t, TyX K H2 v t ∧ PySem.W.kitOne K t (.ref (He.ga K "Part")) = some false := by
          cases hd.same s02 with
          | non => exact ⟨_, .base .non, T.kp_NoneType⟩
          | bl b => exact ⟨_, .base (.bl b), T.kp_bool⟩
          | int i => exact ⟨_, .base (.int i), T.kp_int⟩
          | str z => exact ⟨_, .base (.str z), T.kp_str⟩
          | lst h => exact ⟨_, .base (.lst h), T.kp_list⟩
          | tup h => exact ⟨_, .base (.tup h), T.kp_tuple⟩
        exact ⟨_, rfl, _, _, _, _, false, rfl, .own _, t1, t2, false, rfl, iteF (iteT ⟨_, rfl, rs s2⟩)⟩
      · have Nq := ok0.nd q' nq hq
        obtain ⟨dq, _, _, _, _, g1, _⟩ := id Nq.sh.1
        refine ⟨_, rfl, _, _, _, _, true, rfl, .own _, T.tyP.ty T.k_Part (s02 _ _ Nq.at_), T.tyP.kit, true, rfl, iteT ?_⟩
        refine ⟨_, rfl, q', _, nq.dx, _, _, rfl, s02 _ _ Nq.at_, T.k_Part, T.n_Part_shape, lkS, _, rfl, nq.x, dq, _, rfl, s02 _ _ g1, TyB.ins (s2 _ _ f11), nq.x, nq.g, _, _, rfl, Nq.sh.kz (kz_of s02), .inl ⟨m'.2.1, m'.2.2, _, rfl, shm1.kz (kz_of s2), _, rfl, _, rfl, ?_⟩⟩
        rw [decide_eq_false (fun z => hne2 (by rw [← e2]; exact (good_text Nq.gd gm').mp z))]
        exact iteT ⟨_, rfl, rs s2⟩
  · -- it fits
    have rest : ∀ {H3 : Hp}, Same H H3 → tSeq (tAsg (tVar 0) (gName 4)) (tSeq (tAsg (tCall sp_words [] E0 (tCons (tVar 1) tNil)) (gName 5)) (tSeq (tFor (iList K (tSl (rSlL K) (tVar 5) tNoPart (tPart (tUn (rU fun i => V.int (-i)) (tC (V.int 1)))))) (gName 6) (tAsg (tDGet (tFld K (tVar 4) "cells") (tVar 6)) (gName 4))) (sDPut (tFld K (tVar 4) "cells") (tOp (rIxL K) (tVar 5) (tUn (rU fun i => V.int (-i)) (tC (V.int 1)))) (tVar 2)))) { nx := fun _ H' => Q .non H', rt := Q } [some (.ref p), some (.str (ptext m.1)), some c.v, some (.ref m'.2.1), none, none, none] H3 := by
      intro H3 s3
      refine ⟨_, rfl, _, rfl, m.1, rfl, hws, by have := ptext_len N.gd hm; omega, fun D H4 s4 nD hD => ?_⟩
      obtain ⟨ws, u⟩ := m
      have hD : H4 D = some (.lst (ws.map V.str)) := hD
      rcases List.eq_nil_or_concat ws with e | ⟨ds, wd, e⟩
      · exact absurd e hne
      rw [List.concat_eq_append] at e
      subst e
      rw [List.map_append] at hD
      have s04 := s3.trans s4
      dsimp only [gName]
      refine ⟨_, rfl, 1, rfl, _, rfl, D, _, rfl, .inl (.inl hD), fun D2 nD2 => ⟨D2, rfl, ⟨_, .inl (.inl upd_same)⟩, ?_⟩⟩
      have e3 : cutV (ds.map V.str ++ [wd].map V.str) none (some (-1)) = ds.map V.str := cut_last _ _
      rw [e3]
      have s5 := same_upd (o := .lst (ds.map V.str)) nD2
      have hD2 : (upd H4 D2 (.lst (ds.map V.str))) D2 = some (.lst (ds.map V.str)) := upd_same
      have hD5 := s5 _ _ hD
      generalize upd H4 D2 (.lst (ds.map V.str)) = H5 at *
      refine for_list (K := K) (a := D2) (xs := ds.map V.str) (fun i σ HH => ∃ y6 c', σ = [some (.ref p), some (.str (ptext (ds ++ [wd]))), some c.v, some (.ref m'.2.1), some (Cell.v c'), some (.ref D), y6] ∧ Same H5 HH ∧ Way M p (ds ++ [wd], u) i c') ?_ (fun i σ HH _ pv => ?_) (fun i y σ HH hy pv => ?_) (fun σ HH pv => ?_)
      · exact ⟨_, .part p, rfl, Same.refl _, Way.start hp N.rc hm⟩
      · obtain ⟨_, _, _, s, _⟩ := pv
        exact .inl (.inl (s _ _ hD2))
      · obtain ⟨y6, c', rfl, sH, W⟩ := pv
        have ok1 := ok0.same ((s04.trans s5).trans sH)
        cases hw : ds[i]? with
        | none => rw [List.getElem?_map, hw] at hy; cases hy
        | some w1 =>
          rw [List.getElem?_map, hw] at hy
          cases hy
          have hi : (ds ++ [wd])[i]? = some w1 := by rw [List.getElem?_append_left (List.getElem?_eq_some_iff.mp hw).1]; exact hw
          obtain ⟨r, nr, c2, rfl, hr', dg, W'⟩ := W.next ok1 hi
          exact ⟨_, rfl, r, _, nr.dx, _, _, rfl, (ok1.nd r nr hr').at_, T.k_Part, T.n_Part_cells, lkC, _, rfl, nr.cd, _, rfl, dg, _, c2, rfl, sH, W'⟩
      · obtain ⟨y6, c', rfl, sH, W⟩ := pv
        rw [List.length_map] at W
        obtain ⟨r, nr, rfl, hr', hf, wk⟩ := W.last
        have s06 := (s04.trans s5).trans sH
        have Nr := (ok0.same s06).nd r nr hr'
        refine ⟨_, rfl, _, rfl, r, _, nr.dx, _, _, rfl, Nr.at_, T.k_Part, T.n_Part_cells, lkC, _, rfl, 1, rfl, D, _, _, .str wd, rfl, rfl, .inl (.inl (sH _ _ hD5)), atI_last _ _, nr.cd, _, rfl, DPut.k (k := .inr wd) Nr.cells ?_, ?_⟩
        · have := Nr.cs.len
          unfold kvs
          rw [List.length_map]
          have := (good_has Nr.gd).2.1
          exact sz6 (by have := nr.g.tr.fields_len; omega)
        · exact q HH ds wd r nr s06 rfl wk hr' hf
    cases c with
    | int i =>
      have hc : m.2.isNil = true := hc
      rw [hc]
      refine iteT ⟨_, rfl, _, rfl, .inl ⟨.int i, .int i, _, rfl, ?_⟩⟩
      refine iteE (c := false) rfl (fun z => nomatch z) fun _ => ?_
      refine ⟨_, rfl, m'.2.1, dxm, _, rfl, f11, m'.2.1, m'.2.2, _, rfl, shm1, gm', fun H2 s2 => ⟨_, rfl, ?_⟩⟩
      rw [e2, hc]
      exact iteF (iteF (rest (s1.trans s2)))
    | part r =>
      obtain ⟨hc, nr, hr', et⟩ := hc
      rw [hc]
      refine iteF ?_
      refine ⟨_, rfl, m'.2.1, dxm, _, rfl, f11, m'.2.1, m'.2.2, _, rfl, shm1, gm', fun H2 s2 => ⟨_, rfl, ?_⟩⟩
      rw [e2, hc]
      refine iteT ?_
      have s02 := s1.trans s2
      have Nq := ok0.nd r nr hr'
      obtain ⟨dq, _, _, _, _, g1, _⟩ := id Nq.sh.1
      refine ⟨_, rfl, _, _, _, _, true, rfl, .own _, T.tyP.ty T.k_Part (s02 _ _ Nq.at_), T.tyP.kit, true, rfl, iteT ?_⟩
      refine ⟨_, rfl, r, _, nr.dx, _, _, rfl, s02 _ _ Nq.at_, T.k_Part, T.n_Part_shape, lkS, _, rfl, nr.x, dq, _, rfl, s02 _ _ g1, TyB.ins (s2 _ _ f11), nr.x, nr.g, _, _, rfl, Nq.sh.kz (kz_of s02), .inl ⟨m'.2.1, m'.2.2, _, rfl, shm1.kz (kz_of s2), _, rfl, _, rfl, ?_⟩⟩
      rw [decide_eq_true (show nr.g.tr.text = m'.2.2.tr.text by rw [et, e2])]
      exact iteF (rest s02)
end
end Lx

namespace Pt
open PySem PySem.Spec PyProof.Rows L2 Ub Ur Ug Ue Up Uo Vk Ve Wb
/-! ### numbers of the laws -/
def Num (i : Int) : Prop := i.natAbs ≤ 10 ^ 30
def sp_number : Sp := fun vs H Q _ => ∃ st g l, vs = [.ref st] ∧ StAt H st g l ∧ ∀ i H', Num i → StAt H' st g l → Kp st g l H H' → Q (.int i) H'
theorem num_log {i : Int} (h : Num i) : i.natAbs.log2 < 1920 := by
  have h2 : i.natAbs < 2 ^ 1920 := Nat.lt_of_le_of_lt h (by decide +kernel)
  by_cases e : i.natAbs = 0
  · rw [e]
    decide +kernel
  · exact (Nat.log2_lt e).mpr h2
theorem rb_int {i : Int} (h : Num i) : RB 0 40 (.int i) := by
  refine ⟨?_, ?_, ?_, ?_⟩
  · simp only [PyData.showable, decide_eq_true_eq]
    exact num_log h
  · simp [PyData.hasDict]
  · simp [PyData.depth]
  · have l : (toString i).length ≤ 31 + 1 := int_text_length_le10 (by decide) (Nat.lt_of_le_of_lt h (by decide +kernel))
    have e : (PyData.int i).shown = Str.ofString (toString i) := by simp [PyData.shown]
    rw [e]
    have : (Str.ofString (toString i)).length = (toString i).length := PySem.ofString_length _
    omega
theorem num_small {i : Int} (h : i.natAbs ≤ 1000) : Num i := Nat.le_trans h (by decide +kernel)
theorem rb_ints {is : List Int} (h : ∀ i ∈ is, Num i) (hl : is.length ≤ 6) : RB 1 300 (intsD is) := (rb_tup (k := 0) (n := 40) (m := 6) (fun d hd => by
  obtain ⟨i, hi, rfl⟩ := List.mem_map.mp hd
  exact rb_int (h i hi)) (by rw [List.length_map]; exact hl)).mono (by omega) (by omega)
theorem canLay_ints : ∀ is : List Int, PyData.canLayAll0 (is.map PyData.int) = true
  | [] => by simp [PyData.canLayAll0]
  | i :: is => by simp [PyData.canLayAll0, PyData.canLay0, canLay_ints is]
theorem dep_ints : ∀ is : List Int, PyData.depthAll (is.map PyData.int) = 0
  | [] => by simp [PyData.depthAll]
  | i :: is => by simp [PyData.depthAll, PyData.depth, dep_ints is]
theorem ints_shaped (is : List Int) : SeqAt.shaped (intsD is) = true := by
  unfold SeqAt.shaped intsD
  rw [show PyData.canLay0 (.tuple (is.map PyData.int)) = PyData.canLayAll0 (is.map PyData.int) by simp [PyData.canLay0], canLay_ints, show PyData.depth (.tuple (is.map PyData.int)) = PyData.depthAll (is.map PyData.int) + 1 by simp [PyData.depth], dep_ints]
  rfl
theorem eqvAll_ints : ∀ is js : List Int, PyData.eqvAll (is.map PyData.int) (js.map PyData.int) = decide (is = js)
  | [], [] => by simp [PyData.eqvAll]
  | [], _ :: _ => by simp [PyData.eqvAll]
  | _ :: _, [] => by simp [PyData.eqvAll]
  | i :: is, j :: js => by
    simp only [List.map_cons, PyData.eqvAll, PyData.eqv, eqvAll_ints is js]
    by_cases e : i = j
    · by_cases e2 : is = js <;> simp [e, e2]
    · simp [e]
theorem ints_eqv (is js : List Int) : PyData.eqv (intsD is) (intsD js) = decide (is = js) := by
  unfold intsD
  rw [show PyData.eqv (.tuple (is.map PyData.int)) (.tuple (js.map PyData.int)) = PyData.eqvAll (is.map PyData.int) (js.map PyData.int) by simp [PyData.eqv]]
  exact eqvAll_ints is js
theorem dp_ints {K : PySem.W.Frag} {H : Hp} {p : Addr} {is : List Int} (h : H p = some (.tup (is.map V.int))) : Dp K H (.ref p) (intsD is) := (DtV.tup (N := []) h (by simp) (dtvs_int is)).dp
/-! ### in, not in of data of any depth -/
theorem op_inDK {X : Cx} (K : PySem.W.Frag) (hu : X.A.units + 65 < cLine) (e : X.K = K := by rfl) : OpR X (compareOp .In) (rInD K) := e ▸ op_inD hu
theorem op_notInDK {X : Cx} (K : PySem.W.Frag) (hu : X.A.units + 65 < cLine) (e : X.K = K := by rfl) : OpR X (compareOp .NotIn) (rNotInD K) := e ▸ op_notInD hu
theorem units65 {k : Nat} {A : Around} (r : Room k A) : A.units + 65 < cLine := by have := r.un; omega
/-! ### what the law tells of refusals -/
def two (a b : V) : List V := [a, b]
/-- values refused, or taken -/
def sp_lmade (C : Cp3) : Sp := fun vs H Q _ => ∃ Z M sx g v, vs = [.ref sx, v] ∧ PgOk C Z H M ∧ ShG (Zm Z M) C.shape H sx g ∧ good g.tr ∧ g.tr.isNil = false ∧
  ((∃ (a : Addr) (is : List Int), v = .ref a ∧ H a = some (.tup (is.map V.int)) ∧ is.length = g.tr.plains ∧ ∀ D H', Same H H' → H D = none → H' D = some (.lst []) → Q (.ref D) H') ∨
   (∃ dt, DtV [] H v dt ∧ (∀ ds, dt = .tuple ds → ds.length ≤ 1000) ∧ wholesD dt g.tr.plains = false ∧ rpOk dt = true ∧ ∀ D H', Same H H' → H D = none → H' D = some (.lst [.bl true, .bl true]) → Q (.ref D) H'))
def sp_litem (K : PySem.W.Frag) (C : Cp3) : Sp := fun vs H Q _ => ∃ Z M p n y d, vs = [.ref p, y] ∧ PgOk C Z H M ∧ M p = some n ∧ NoP K H n.g.tr y ∧ DtV [] H y d ∧ rpOk d = true ∧ ∀ D H', Same H H' → H D = none → H' D = some (.lst [.bl true, .bl true]) → Q (.ref D) H'
def sp_lput (K : PySem.W.Frag) (C : Cp3) : Sp := fun vs H Q _ => ∃ Z M p n y v, vs = [.ref p, y, v] ∧ PgOk C Z H M ∧ M p = some n ∧
  (((NoP K H n.g.tr y ∨ y = .str ".") ∧ (∃ d, DtV [] H y d ∧ rpOk d = true) ∧ ∀ D H', Same H H' → H D = none → H' D = some (.lst [.str "path", .bl true]) → Q (.ref D) H') ∨
   (∃ m ∈ wpaths n.g.tr, m.1 ≠ [] ∧ y = .str (ptext m.1) ∧
     ((BadVal H M m.2 v ∧ (∀ d, DtV [] H v d → rpOk d = true) ∧ ∀ D H', Same H H' → H D = none → H' D = some (.lst [.str "value", .bl true]) → Q (.ref D) H') ∨
      (∃ c, v = Cell.v c ∧ Fits M m.2 c ∧ ∀ D H1 ds w q nq, Same H H1 → H D = none → H1 D = some (.lst []) → m.1 = ds ++ [w] → walk M (.part p) ds = some (.part q) → M q = some nq → (w, m.2) ∈ nq.g.tr.fields → Q (.ref D) (upd H1 nq.cd (.dK (putK (kvs nq.cs) (.inr w) c.v)))))))
end Pt

namespace Lx
open PySem PySem.Spec PyProof.Rows L2 Ub Ur Ug Ue Up Uo Ve Va Vk Wb Pt
section
variable {P : Program} {w : World} {K : PySem.W.Frag} {mg : Str → Option Value} {base : Heap}
theorem sc_law_number : FnScope ["_law_state", "_law_way"] ["_law_state"] (defScope s_law_number) := ⟨rfl, rfl, rfl, by decide +kernel, rfl, by decide +kernel, by decide +kernel⟩
theorem ok_law_number {fd : FuncData} (F : Df K ("_law_number", none) "_law_number" "_law_number" s_law_number [] fd) (T : Tx K mg) (c_law_draw : Cal P w K mg base 1 "_law_draw" ["_law_state", "_law_many"] sp_draw) : FnOk P w K mg base CX0 2 (He.ga K "_law_number") fd ["_law_state"] sp_number := by
  refine F.ok sc_law_number (fun vs H Q E h => by obtain ⟨_, _, _, rfl, _⟩ := h; rfl) (fun cdv A outer s H vs Q E hr h => ?_)
  obtain ⟨st, g, l, rfl, S, q⟩ := h
  refine ⟨_, PSs.nox (pss_cons (ps_set (i := 1) sc_law_number.nd rfl (by first | exact Or.inl rfl | exact Or.inr rfl) (pe_cal c_law_draw (hr.mono (by omega)) (by rfl) (pa_cons (pv 0) (pa_cons pe_int pa_nil))))
      (pss_cons (ps_if (pt_cmpR op_lt (pv 1) pe_int (nomark _))
        (pss_one (ps_ret (pe_cal c_law_draw (hr.mono (by omega)) (by rfl) (pa_cons (pv 0) (pa_cons pe_int pa_nil)))))
        pss_nil)
      (pss_cons (ps_if (pt_cmpR op_eq (pv 1) pe_int (nomark _))
        (pss_one (ps_ret (pe_un un_neg (pe_cal c_law_draw (hr.mono (by omega)) (by rfl) (pa_cons (pv 0) (pa_cons (pe_op op_pow pe_int pe_int) pa_nil))))))
        pss_nil)
      (pss_one (ps_ret (pe_op op_sub (pe_op op_sub (pe_op op_pow pe_int pe_int) pe_int) (pe_cal c_law_draw (hr.mono (by omega)) (by rfl) (pa_cons (pv 0) (pa_cons (pe_op op_pow pe_int pe_int) pa_nil))))))))), ?_⟩
  have e30 : (10 : Int) ^ (30 : Int).toNat = 1000000000000000000000000000000 := by decide +kernel
  have n30 : (10 : Nat) ^ 30 = 1000000000000000000000000000000 := by decide +kernel
  refine ⟨_, rfl, st, g, l, 4, rfl, by decide, by decide, S, fun r H1 r0 r1 S1 k1 => ?_⟩
  refine ⟨_, rfl, _, _, rfl, rfl, _, rfl, ?_⟩
  by_cases c : r < 2
  · refine iteY c ?_
    refine ⟨_, rfl, st, g, l, 3, rfl, by decide, by decide, S1, fun r' H2 a b S2 k2 => q r' H2 (by unfold Num; rw [n30]; omega) S2 (k1.trans k2)⟩
  refine iteN c ?_
  refine ⟨_, rfl, rfl, _, rfl, ?_⟩
  by_cases c2 : r = 2
  · refine iteY (by rw [c2]) ?_
    refine ⟨_, rfl, _, _, rfl, rfl, ⟨by decide, by decide, by decide⟩, st, g, l, _, rfl, by rw [e30]; decide, by rw [e30]; decide, S1, fun r' H2 a b S2 k2 => ⟨_, rfl, q _ H2 ?_ S2 (k1.trans k2)⟩⟩
    rw [e30] at b
    unfold Num
    rw [n30]
    omega
  refine iteN (fun z => c2 (V.int.inj z)) ?_
  refine ⟨_, _, rfl, rfl, ⟨by decide, by decide, by decide⟩, _, _, rfl, rfl, ?_⟩
  refine ⟨_, rfl, _, _, rfl, rfl, ⟨by decide, by decide, by decide⟩, st, g, l, _, rfl, by rw [e30]; decide, by rw [e30]; decide, S1, fun r' H2 a b S2 k2 => ⟨_, _, rfl, rfl, q _ H2 ?_ S2 (k1.trans k2)⟩⟩
  rw [e30] at b ⊢
  unfold Num
  rw [n30]
  omega
theorem sc_law_made : FnScope ["_law_shape", "_law_values", "_law_told", "e", "_law_known"] ["_law_shape", "_law_values"] (defScope s_law_made) := ⟨rfl, rfl, rfl, by decide +kernel, rfl, by decide +kernel, by decide +kernel⟩
theorem ok_law_made {fd : FuncData} (F : Df K ("_law_made", none) "_law_made" "_law_made" s_law_made [] fd) (T : Tx K mg) (m_Part : CalMD P w K mg base 15 "Part" (He.ga K "Part") ["self", "shape", "values", "cells"] [V.non] (sp_part (C3 K) (He.ga K "BadValues") 4)) :
    FnG P w K mg base CX0 17 (He.ga K "_law_made") fd ["_law_shape", "_law_values"] (sp_lmade (C3 K)) := by
  refine okG F sc_law_made (fun vs H Q E h => by obtain ⟨_, _, _, _, _, rfl, _⟩ := h; rfl) (fun cdv A outer s H vs Q E hG hr h => ?_)
  obtain ⟨Z, M, sx, g, v, rfl, ok0, sh, gd, hn, h⟩ := h
  refine ⟨_, PSs.nox (pss_cons (ps_set (i := 2) sc_law_made.nd rfl (by first | exact Or.inl rfl | exact Or.inr rfl) (pe_lst pa_nil))
      (pss_cons (ps_try_as (i := 3) rfl rfl sc_law_made.nd rfl rfl ⟨by rfl, by decide, .inl T.g_UnseenwritesError⟩ takes0
        (fun W pn xe tk po => (pss_one (ps_expr (pe_makeD m_Part (passW tk) (hr.mono (by omega)) (by rfl) (pa_cons (pv 0) (pa_cons (pv 1) pa_nil))))))
        (fun a oe cls d pn hz hf => (pss_cons (ps_set (i := 4) sc_law_made.nd rfl (by first | exact Or.inl rfl | exact Or.inr rfl) (pe_and (pe_callB (call_isS hz hf) (by rfl) T.isinstance (by decide +kernel) (pa_cons (pv 3) (pa_cons (pe_globR (by rfl) T.g_BadValues) pa_nil))) (pe_one (pe_not (pe_callB (call_isS hz hf) (by rfl) T.isinstance (by decide +kernel) (pa_cons (pv 3) (pa_cons (pe_globR (by rfl) T.g_BadValue) pa_nil)))))))
          (pss_one (ps_set (i := 2) sc_law_made.nd rfl (by first | exact Or.inl rfl | exact Or.inr rfl) (pe_lst (pa_cons (pe_and (pv 4) (pe_one (pe_callB (call_isS hz hf) (by rfl) T.isinstance (by decide +kernel) (pa_cons (pv 3) (pa_cons (pe_bltn (v := .ty "ValueError") (by rfl) T.ValueError (by decide +kernel) rfl) pa_nil))))) (pa_cons (pe_cmpR op_eq (pe_callB (call_reprV (by exact hG) (by first | exact hr.units | exact hr.units0 | exact hu)) (by rfl) T.repr (by decide +kernel) (pa_cons (pe_xf T.x_BadValues.x T.x_BadValues.no hz hf (pv 3)) pa_nil)) (pe_callB (call_reprV (by exact hG) (by first | exact hr.units | exact hr.units0 | exact hu)) (by rfl) T.repr (by decide +kernel) (pa_cons (pv 1) pa_nil)) (nomark _)) pa_nil))))))))
      (pss_one (ps_ret (pv 2))))), ?_⟩
  have d3 := (good_has gd).1
  refine ⟨Nat.zero_le _, fun D nD => ?_⟩
  have sD := same_upd (o := .lst []) nD
  have eD : (upd H D (.lst [])) D = some (.lst []) := upd_same
  dsimp only [gName]
  generalize upd H D (.lst []) = H1 at *
  refine ⟨_, rfl, _, rfl, fun x dx nx ndx hne => ?_⟩
  refine ⟨H1, Z, M, x, dx, sx, g, v, rfl, rfl, nx, ndx, hne, ok0.same sD, sh.kz (kz_of sD), gd, hn, by omega, ?_⟩
  rcases h with ⟨a, is, rfl, ha, hl, q⟩ | ⟨dt, hdt, hlt, hno, hrp, q⟩
  · refine .inl ⟨a, is, rfl, sD _ _ ha, hl, fun M' H' md => ⟨rfl, ?_⟩⟩
    exact ⟨_, rfl, q D H' (sD.trans md.same) nD (md.same _ _ eD)⟩
  · refine .inr ⟨dt, hdt.same sD, hlt, hno, fun e H3 s3 ne he => ?_⟩
    have s03 := sD.trans s3
    refine ⟨true, T.em_BadValues, fun _ a na => ?_, fun z => nomatch z⟩
    refine ⟨_, rfl, _, e, _, _, _, _, rfl, rfl, rfl, he, T.x_BadValues.e, fun u r => r, T.k_VsVs, true, rfl, iteT ?_⟩
    refine ⟨_, rfl, _, e, _, _, _, _, rfl, rfl, rfl, he, T.x_BadValues.e, fun u r => r, T.k_VsV, false, rfl, ?_⟩
    have dt3 := hdt.same s03
    refine ⟨_, rfl, true, rfl, iteT ?_⟩
    refine ⟨_, rfl, _, e, _, _, _, _, rfl, rfl, rfl, he, T.x_BadValues.e, fun u r => r, T.k_VsE, ?_⟩
    refine ⟨_, rfl, rfl, rfl, e, _, v, rfl, he, (by simp [List.lookup]), v, dt, rfl, dt3, hrp, ?_⟩
    refine ⟨_, rfl, v, dt, rfl, dt3, hrp, rfl, ?_⟩
    refine ⟨(by show 2 ≤ sizeLine; decide), fun D2 nD2 => ?_⟩
    rw [decide_eq_true (show V.str dt.shown = V.str dt.shown from rfl)]
    exact ⟨_, rfl, q D2 _ (s03.trans (same_upd nD2)) (s03.free nD2) upd_same⟩
theorem sc_law_item : FnScope ["_law_part", "_law_path", "_law_told", "_law_there", "e"] ["_law_part", "_law_path"] (defScope s_law_item) := ⟨rfl, rfl, rfl, by decide +kernel, rfl, by decide +kernel, by decide +kernel⟩
theorem ok_law_item {fd : FuncData} (F : Df K ("_law_item", none) "_law_item" "_law_item" s_law_item [] fd) (T : Tx K mg) (k_Part_getitem : CalK P w K mg base (CX P w) 4 (He.ga K "Part") "__getitem__" ["self", "path"] (sp_pget K (C3 K) (He.ga K "BadPath"))) :
    FnG P w K mg base CX0 8 (He.ga K "_law_item") fd ["_law_part", "_law_path"] (sp_litem K (C3 K)) := by
  refine okG F sc_law_item (fun vs H Q E h => by obtain ⟨_, _, _, _, _, _, rfl, _⟩ := h; rfl) (fun cdv A outer s H vs Q E hG hr h => ?_)
  obtain ⟨Z, M, p, n, y, dt, rfl, ok0, hp, hno, hdt, hrp, q⟩ := h
  refine ⟨_, PSs.nox (pss_cons (ps_set (i := 2) sc_law_item.nd rfl (by first | exact Or.inl rfl | exact Or.inr rfl) (pe_lst pa_nil))
      (pss_cons (ps_try_as (i := 4) rfl rfl sc_law_item.nd rfl rfl ⟨by rfl, by decide, .inl T.g_UnseenwritesError⟩ takes0
        (fun W pn xe tk po => (pss_one (ps_set (i := 3) sc_law_item.nd rfl (by first | exact Or.inl rfl | exact Or.inr rfl) (pe_ixO k_Part_getitem (passW tk) (hr.mono (by omega)) (pv 0) (pv 1) (fun _ _ => rfl)))))
        (fun a oe cls d pn hz hf => (pss_one (ps_set (i := 2) sc_law_item.nd rfl (by first | exact Or.inl rfl | exact Or.inr rfl) (pe_lst (pa_cons (pe_callB (call_isS hz hf) (by rfl) T.isinstance (by decide +kernel) (pa_cons (pv 4) (pa_cons (pe_globR (by rfl) T.g_BadPath) pa_nil))) (pa_cons (pe_cmpR op_eq (pe_callB (call_reprV (by exact hG) (by first | exact hr.units | exact hr.units0 | exact hu)) (by rfl) T.repr (by decide +kernel) (pa_cons (pe_xf T.x_BadPath.x T.x_BadPath.no hz hf (pv 4)) pa_nil)) (pe_callB (call_reprV (by exact hG) (by first | exact hr.units | exact hr.units0 | exact hu)) (by rfl) T.repr (by decide +kernel) (pa_cons (pv 1) pa_nil)) (nomark _)) pa_nil)))))))
      (pss_cons (ps_if (pt_not (pt_truthK K (pv 2) (by intro _; rfl)))
        (pss_one ps_no)
        pss_nil)
      (pss_one (ps_ret (pv 2)))))), ?_⟩
  refine ⟨Nat.zero_le _, fun D nD => ?_⟩
  have sD := same_upd (o := .lst []) nD
  have eD : (upd H D (.lst [])) D = some (.lst []) := upd_same
  dsimp only [gName]
  generalize upd H D (.lst []) = H1 at *
  have N := (ok0.same sD).nd p n hp
  refine ⟨_, rfl, _, rfl, p, n.dx, _, rfl, N.at_, Z, M, p, n, y, rfl, ok0.same sD, hp, .inr ⟨?_, fun e H3 s3 ne he => ?_⟩⟩
  · rcases hno with hno | hno
    · exact .inl (notStr_same hdt sD hno)
    · exact .inr hno
  have s03 := sD.trans s3
  have dt3 := hdt.same s03
  refine ⟨true, T.em_BadPath, fun _ a na => ?_, fun z => nomatch z⟩
  refine ⟨_, rfl, _, e, _, _, _, _, rfl, rfl, rfl, he, T.x_BadPath.e, fun u r => r, T.k_PP, ?_⟩
  refine ⟨_, rfl, rfl, rfl, e, _, y, rfl, he, (by simp [List.lookup]), y, dt, rfl, dt3, hrp, ?_⟩
  refine ⟨_, rfl, y, dt, rfl, dt3, hrp, rfl, ?_⟩
  refine ⟨(by show 2 ≤ sizeLine; decide), fun D2 nD2 => ?_⟩
  rw [decide_eq_true (show V.str dt.shown = V.str dt.shown from rfl)]
  have e2 : (upd H3 D2 (.lst [.bl true, .bl true])) D2 = some (.lst [.bl true, .bl true]) := upd_same
  refine ⟨_, rfl, true, .inl ⟨_, .inl (.inl e2), rfl⟩, iteE (c := false) rfl (fun z => nomatch z) fun _ => ?_⟩
  exact ⟨_, rfl, q D2 _ (s03.trans (same_upd nD2)) (s03.free nD2) e2⟩
theorem sc_law_put : FnScope ["_law_part", "_law_path", "_law_value", "_law_told", "e"] ["_law_part", "_law_path", "_law_value"] (defScope s_law_put) := ⟨rfl, rfl, rfl, by decide +kernel, rfl, by decide +kernel, by decide +kernel⟩
theorem ok_law_put {fd : FuncData} (F : Df K ("_law_put", none) "_law_put" "_law_put" s_law_put [] fd) (T : Tx K mg) (k_Part_setitem : CalK P w K mg base (CX P w) 7 (He.ga K "Part") "__setitem__" ["self", "path", "value"] (sp_pset K (C3 K) (He.ga K "BadPath") (He.ga K "BadValue"))) :
    FnG P w K mg base CX0 9 (He.ga K "_law_put") fd ["_law_part", "_law_path", "_law_value"] (sp_lput K (C3 K)) := by
  refine okG F sc_law_put (fun vs H Q E h => by obtain ⟨_, _, _, _, _, _, rfl, _⟩ := h; rfl) (fun cdv A outer s H vs Q E hG hr h => ?_)
  obtain ⟨Z, M, p, n, y, v, rfl, ok0, hp, h⟩ := h
  refine ⟨_, PSs.nox (pss_cons (ps_set (i := 3) sc_law_put.nd rfl (by first | exact Or.inl rfl | exact Or.inr rfl) (pe_lst pa_nil))
      (pss_cons (ps_try_manyA rfl rfl sc_law_put.nd takes0
        (fun W pn xe tk po => (pss_one (ps_asg (pv 2) (pg_subO k_Part_setitem T.ns_Part (passW tk) (hr.mono (by omega)) (pv 0) (pv 1)))))
        (.cons (i := 4) rfl rfl ⟨by rfl, by decide, .inl T.g_BadPath⟩
        (fun a oe cls d pn hz hf => (pss_one (ps_set (i := 3) sc_law_put.nd rfl (by first | exact Or.inl rfl | exact Or.inr rfl) (pe_lst (pa_cons pe_str (pa_cons (pe_cmpR op_eq (pe_callB (call_reprV (by exact hG) (by first | exact hr.units | exact hr.units0 | exact hu)) (by rfl) T.repr (by decide +kernel) (pa_cons (pe_xf T.x_BadPath.x T.x_BadPath.no hz hf (pv 4)) pa_nil)) (pe_callB (call_reprV (by exact hG) (by first | exact hr.units | exact hr.units0 | exact hu)) (by rfl) T.repr (by decide +kernel) (pa_cons (pv 1) pa_nil)) (nomark _)) pa_nil))))))
        (.cons (i := 4) rfl rfl ⟨by rfl, by decide, .inl T.g_BadValue⟩
        (fun a oe cls d pn hz hf => (pss_one (ps_set (i := 3) sc_law_put.nd rfl (by first | exact Or.inl rfl | exact Or.inr rfl) (pe_lst (pa_cons pe_str (pa_cons (pe_or (pe_callB (call_isiK' K) (by rfl) T.isinstance (by decide +kernel) (pa_cons (pv 2) (pa_cons (pe_globR (by rfl) T.g_Part) pa_nil))) (pe_one (pe_cmpR op_eq (pe_callB (call_reprV (by exact hG) (by first | exact hr.units | exact hr.units0 | exact hu)) (by rfl) T.repr (by decide +kernel) (pa_cons (pe_xf T.x_BadValue.x T.x_BadValue.no hz hf (pv 4)) pa_nil)) (pe_callB (call_reprV (by exact hG) (by first | exact hr.units | exact hr.units0 | exact hu)) (by rfl) T.repr (by decide +kernel) (pa_cons (pv 2) pa_nil)) (nomark _)))) pa_nil))))))
        .nil)))
      (pss_one (ps_ret (pv 3))))), ?_⟩
  refine ⟨Nat.zero_le _, fun D nD => ?_⟩
  have sD := same_upd (o := .lst []) nD
  have eD : (upd H D (.lst [])) D = some (.lst []) := upd_same
  dsimp only [gName]
  generalize upd H D (.lst []) = H1 at *
  have N := (ok0.same sD).nd p n hp
  refine ⟨_, rfl, _, rfl, _, rfl, p, n.dx, _, rfl, N.at_, Z, M, p, n, y, v, rfl, ok0.same sD, hp, ?_⟩
  rcases h with ⟨hno, ⟨dt, hdt, hrp⟩, q⟩ | ⟨m, hm, hne, rfl, h⟩
  · refine .inl ⟨?_, fun e H3 s3 ne he => ?_⟩
    · rcases hno with (hno | hno) | hno
      · exact .inl (.inl (notStr_same hdt sD hno))
      · exact .inl (.inr hno)
      · exact .inr hno
    have s03 := sD.trans s3
    have dt3 := hdt.same s03
    refine ⟨true, T.em_PP, fun _ a na => ?_, fun z => nomatch z⟩
    refine ⟨_, rfl, rfl, rfl, e, _, y, rfl, he, (by simp [List.lookup]), y, dt, rfl, dt3, hrp, ?_⟩
    refine ⟨_, rfl, y, dt, rfl, dt3, hrp, rfl, ?_⟩
    refine ⟨(by show 2 ≤ sizeLine; decide), fun D2 nD2 => ?_⟩
    rw [decide_eq_true (show V.str dt.shown = V.str dt.shown from rfl)]
    exact ⟨_, rfl, q D2 _ (s03.trans (same_upd nD2)) (s03.free nD2) upd_same⟩
  refine .inr ⟨m, hm, hne, rfl, ?_⟩
  rcases h with ⟨hbad, hrp, q⟩ | ⟨c, rfl, hc, q⟩
  · refine .inl ⟨?_, fun e H3 s3 ne he => ?_⟩
    · rcases hbad with ⟨b1, ⟨d, b2, b3⟩ | b2⟩ | ⟨b1, ⟨d, b2⟩ | b2⟩
      · exact .inl ⟨b1, .inl ⟨d, b2.same sD, b3⟩⟩
      · exact .inl ⟨b1, .inr b2⟩
      · exact .inr ⟨b1, .inl ⟨d, b2.same sD⟩⟩
      · exact .inr ⟨b1, .inr b2⟩
    have s03 := sD.trans s3
    refine ⟨false, T.em_VP, (fun z => nomatch z), fun _ => ⟨true, T.em_VV, fun _ a na => ?_, fun z => nomatch z⟩⟩
    have kind : (∃ d, DtV [] H v d) ∨ ∃ q n, v = .ref q ∧ M q = some n := by
      rcases hbad with ⟨_, ⟨d, b, _⟩ | b⟩ | ⟨_, b | ⟨q, n, b1, b2, _⟩⟩
      · exact .inl ⟨d, b⟩
      · exact .inr b
      · exact .inl b
      · exact .inr ⟨q, n, b1, b2⟩
    rcases kind with ⟨d, hd⟩ | ⟨q', nq, rfl, hq⟩
    · have d3 := hd.same s03
      have rp := hrp d hd
      obtain ⟨T0, t1, t2⟩ : ∃ t, TyX K H3 v t ∧ PySem.W.kitOne K t (.ref (He.ga K "Part")) = some false := by
        cases d3 with
        | non => exact ⟨_, .base .non, T.kp_NoneType⟩
        | bl b => exact ⟨_, .base (.bl b), T.kp_bool⟩
        | int i => exact ⟨_, .base (.int i), T.kp_int⟩
        | str z => exact ⟨_, .base (.str z), T.kp_str⟩
        | lst h => exact ⟨_, .base (.lst h), T.kp_list⟩
        | tup h => exact ⟨_, .base (.tup h), T.kp_tuple⟩
      refine ⟨_, rfl, _, _, _, _, false, rfl, .own _, t1, t2, false, rfl, iteF ?_⟩
      refine ⟨_, rfl, rfl, rfl, e, _, v, rfl, he, (by simp [List.lookup]), v, d, rfl, d3, rp, ?_⟩
      refine ⟨_, rfl, v, d, rfl, d3, rp, rfl, ?_⟩
      refine ⟨(by show 2 ≤ sizeLine; decide), fun D2 nD2 => ?_⟩
      rw [decide_eq_true (show V.str d.shown = V.str d.shown from rfl)]
      exact ⟨_, rfl, q D2 _ (s03.trans (same_upd nD2)) (s03.free nD2) upd_same⟩
    · refine ⟨_, rfl, _, _, _, _, true, rfl, .own _, T.tyP.ty T.k_Part (s03 _ _ (ok0.nd q' nq hq).at_), T.tyP.kit, true, rfl, iteT ?_⟩
      refine ⟨(by show 2 ≤ sizeLine; decide), fun D2 nD2 => ?_⟩
      exact ⟨_, rfl, q D2 _ (s03.trans (same_upd nD2)) (s03.free nD2) upd_same⟩
  · refine .inr ⟨c, rfl, hc, fun H2 ds wd r nr s2 e1 wk hr' hf => ?_⟩
    exact ⟨_, rfl, q D H2 ds wd r nr (sD.trans s2) nD (s2 _ _ eD) e1 wk hr' hf⟩
end
end Lx

namespace Pt
open PySem PySem.Spec PyProof.Rows L2 Ub Ur Ug Ue Up Uo Vk Ve Wb
/-! ### wrong values -/
structure WrongD (n : Nat) (d : PyData) : Prop where
  no : wholesD d n = false
  rp : rpOk d = true
  le : ∀ ds, d = .tuple ds → ds.length ≤ 1000
def sp_wrong : Sp := fun vs H Q _ => ∃ (st g l va : Addr) (is : List Int), vs = [.ref st, .ref va] ∧ H va = some (.tup (is.map V.int)) ∧ 1 ≤ is.length ∧ is.length ≤ 5 ∧ (∀ i ∈ is, Num i) ∧ StAt H st g l ∧ ∀ v d H', DtV [st, g, l] H' v d → WrongD is.length d → StAt H' st g l → Kp st g l H H' → Q v H'
def oddV : List PyData := [.none, .bool true, .bool false, .str "0", .tuple [], .tuple [.int 1], .list [], .str "."]
theorem oddV_ok : ∀ d ∈ oddV, isIntD d = false ∧ RB 1 60 d := by
  intro d hd
  have h1 := List.all_eq_true.mp (show oddV.all (fun d => !isIntD d && (d.showable && (!d.hasDict && (decide (d.depth ≤ 1) && decide (d.shown.length ≤ 60))))) = true by decide +kernel) d hd
  simp only [Bool.and_eq_true, Bool.not_eq_true', decide_eq_true_eq] at h1
  exact ⟨h1.1, h1.2.1, h1.2.2.1, h1.2.2.2.1, h1.2.2.2.2⟩
theorem ofN {H : Hp} {st g l b : Addr} {xs : List V} (S : StAt H st g l) (hb : H b = some (.tup xs)) : b ∉ [st, g, l] := fun z => by
  obtain ⟨⟨_, _, _, _, h1, h2, h3, _⟩, _⟩ := S
  simp only [List.mem_cons, List.not_mem_nil, or_false] at z
  rcases z with z | z | z
  · rw [z, h1] at hb; cases hb
  · rw [z, h2] at hb; cases hb
  · rw [z, h3] at hb; cases hb
theorem dtT {H : Hp} {st g l b : Addr} {xs : List V} {ds : List PyData} (S : StAt H st g l) (hb : H b = some (.tup xs)) (h : DtVs [st, g, l] H xs ds) : DtV [st, g, l] H (.ref b) (.tuple ds) := .tup hb (ofN S hb) h
theorem dtL {H : Hp} {st g l b : Addr} {xs : List V} {ds : List PyData} (hb : H b = some (.lst xs)) (n : b ≠ st ∧ b ≠ g ∧ b ≠ l) (h : DtVs [st, g, l] H xs ds) : DtV [st, g, l] H (.ref b) (.list ds) := .lst hb (by simp only [List.mem_cons, List.not_mem_nil, or_false, not_or]; exact n) h
theorem kpN {st g l : Addr} {H H' : Hp} (k : Kp st g l H H') : ∀ b o, H b = some o → b ∉ [st, g, l] → H' b = some o := fun b o e n => by
  simp only [List.mem_cons, List.not_mem_nil, or_false, not_or] at n
  exact k b o e n.1 n.2.1 n.2.2
theorem cut_m1 (xs : List V) : cutV xs none (some (-1)) = xs.dropLast := by
  rcases List.eq_nil_or_concat xs with e | ⟨ys, y, e⟩
  · rw [e]; rfl
  · rw [e, List.concat_eq_append, cut_last]
    simp
theorem wrong_len {n : Nat} {is : List Int} (h : ∀ i ∈ is, Num i) (hl : is.length ≤ 6) (hn : is.length ≠ n) : WrongD n (intsD is) := by
  refine ⟨?_, (rb_ints h hl).rp (by omega) (by omega), fun ds e => ?_⟩
  · show (decide ((is.map PyData.int).length = n) && _) = false
    rw [List.length_map, decide_eq_false hn]
    rfl
  · injection e with e
    rw [← e, List.length_map]
    omega
theorem wrong_bent {n : Nat} {is js : List Int} {d : PyData} (h : ∀ i ∈ is, Num i) (h' : ∀ i ∈ js, Num i) (hl : is.length + js.length ≤ 5) (hd : d ∈ oddV) : WrongD n (.tuple (is.map PyData.int ++ [d] ++ js.map PyData.int)) := by
  obtain ⟨o1, o2⟩ := oddV_ok d hd
  have len : (is.map PyData.int ++ [d] ++ js.map PyData.int).length ≤ 6 := by simp; omega
  refine ⟨?_, (rb_tup (k := 1) (n := 60) (m := 6) (fun x hx => ?_) len).rp (by omega) (by omega), fun ds e => ?_⟩
  · show (decide _ && (is.map PyData.int ++ [d] ++ js.map PyData.int).all isIntD) = false
    rw [List.all_append, List.all_append, List.all_cons, o1]
    simp
  · simp only [List.mem_append, List.mem_cons, List.not_mem_nil, or_false, List.mem_map] at hx
    rcases hx with (⟨i, hi, rfl⟩ | rfl) | ⟨i, hi, rfl⟩
    · exact (rb_int (h i hi)).mono (by omega) (by omega)
    · exact o2
    · exact (rb_int (h' i hi)).mono (by omega) (by omega)
  · injection e with e
    rw [← e]
    omega
theorem wrong_list {n : Nat} {is : List Int} (h : ∀ i ∈ is, Num i) (hl : is.length ≤ 5) : WrongD n (.list (is.map PyData.int)) := by
  refine ⟨rfl, (rb_lst (k := 0) (n := 40) (m := 5) (fun d hd => ?_) (by rw [List.length_map]; exact hl)).rp (by omega) (by omega), fun ds e => nomatch e⟩
  obtain ⟨i, hi, rfl⟩ := List.mem_map.mp hd
  exact rb_int (h i hi)
theorem wrong_in {n : Nat} {is : List Int} (h : ∀ i ∈ is, Num i) (hl : is.length ≤ 5) : WrongD n (.tuple [intsD is]) := by
  refine ⟨?_, (rb_tup (k := 1) (n := 300) (m := 1) (fun d hd => ?_) (by simp)).rp (by omega) (by omega), fun ds e => ?_⟩
  · show (decide _ && [intsD is].all isIntD) = false
    simp [isIntD, intsD]
  · have e : d = intsD is := by simpa using hd
    rw [e]
    exact rb_ints h (by omega)
  · injection e with e
    rw [← e]
    simp
theorem wrong_flat {n : Nat} : ∀ d ∈ [PyData.none, .bool true, .int 0, .str "", .list []], WrongD n d := by
  intro d hd
  simp only [List.mem_cons, List.not_mem_nil, or_false] at hd
  rcases hd with rfl | rfl | rfl | rfl | rfl <;> exact ⟨rfl, by decide +kernel, fun ds e => nomatch e⟩
end Pt
namespace Lx
open PySem PySem.Spec PyProof.Rows L2 Ub Ur Ug Ue Up Uo Ve Va Vk Wb Pt
section
variable {P : Program} {w : World} {K : PySem.W.Frag} {mg : Str → Option Value} {base : Heap}
theorem sc_law_wrong_values : FnScope ["_law_state", "_law_values", "_law_at", "_law_odd_here", "_law_bent", "_law_some"] ["_law_state", "_law_values"] (defScope s_law_wrong_values) := ⟨rfl, rfl, rfl, by decide +kernel, rfl, by decide +kernel, by decide +kernel⟩
theorem ok_law_wrong_values {fd : FuncData} (F : Df K ("_law_wrong_values", none) "_law_wrong_values" "_law_wrong_values" s_law_wrong_values [] fd) (T : Tx K mg) (c_law_draw : Cal P w K mg base 1 "_law_draw" ["_law_state", "_law_many"] sp_draw) (c_law_of : Cal P w K mg base 2 "_law_of" ["_law_state", "_law_some"] sp_of) :
    FnOk P w K mg base CX0 3 (He.ga K "_law_wrong_values") fd ["_law_state", "_law_values"] sp_wrong := by
  refine F.ok sc_law_wrong_values (fun vs H Q E h => by obtain ⟨_, _, _, _, _, rfl, _⟩ := h; rfl) (fun cdv A outer s H vs Q E hr h => ?_)
  obtain ⟨st, g, l, va, is, rfl, hva, l1, l5, hnum, S, q⟩ := h
  refine ⟨_, PSs.nox (pss_cons (ps_set (i := 2) sc_law_wrong_values.nd rfl (by first | exact Or.inl rfl | exact Or.inr rfl) (pe_cal c_law_draw (hr.mono (by omega)) (by rfl) (pa_cons (pv 0) (pa_cons (pe_callB (call_len_seqK K) (by rfl) T.len (by decide +kernel) (pa_cons (pv 1) pa_nil)) pa_nil))))
      (pss_cons (ps_set (i := 3) sc_law_wrong_values.nd rfl (by first | exact Or.inl rfl | exact Or.inr rfl) (pe_cal c_law_of (hr.mono (by omega)) (by rfl) (pa_cons (pv 0) (pa_cons (pe_lst (pa_cons pe_non (pa_cons pe_bl (pa_cons pe_bl (pa_cons pe_str (pa_cons (pe_tup pa_nil) (pa_cons (pe_tup (pa_cons pe_int pa_nil)) (pa_cons (pe_lst pa_nil) (pa_cons pe_str pa_nil))))))))) pa_nil))))
      (pss_cons (ps_set (i := 4) sc_law_wrong_values.nd rfl (by first | exact Or.inl rfl | exact Or.inr rfl) (pe_op (op_catAK K) (pe_op (op_catAK K) (pe_slice (sl_tupAK K) (pv 1) po_none (po_some (pv 2))) (pe_tup (pa_cons (pv 3) pa_nil))) (pe_slice (sl_tupAK K) (pv 1) (po_some (pe_op op_add (pv 2) pe_int)) po_none)))
      (pss_cons (ps_set (i := 5) sc_law_wrong_values.nd rfl (by first | exact Or.inl rfl | exact Or.inr rfl) (pe_lst (pa_cons (pe_slice (sl_tupAK K) (pv 1) po_none (po_some (pe_un un_neg pe_int))) (pa_cons (pe_op (op_catAK K) (pv 1) (pe_tup (pa_cons pe_int pa_nil))) (pa_cons (pe_callTy (call_list_ofK K) (by rfl) T.list (by decide +kernel) (pa_cons (pv 1) pa_nil)) (pa_cons (pv 4) pa_nil))))))
      (pss_one (ps_ret (pe_cal c_law_of (hr.mono (by omega)) (by rfl) (pa_cons (pv 0) (pa_cons (pe_op op_cat (pv 5) (pe_lst (pa_cons pe_non (pa_cons pe_bl (pa_cons pe_int (pa_cons pe_str (pa_cons (pe_lst pa_nil) (pa_cons (pe_tup (pa_cons (pv 1) pa_nil)) pa_nil)))))))) pa_nil))))))))), ?_⟩
  have lus : (is.map V.int).length = is.length := List.length_map _
  refine ⟨_, rfl, _, rfl, va, _, rfl, .inr (.inl (.inl hva)), st, g, l, _, rfl, by rw [lus]; omega, by rw [lus]; omega, S, fun r H1 r0 r1 S1 k1 => ?_⟩
  rw [lus] at r1
  obtain ⟨i, rfl⟩ : ∃ i : Nat, r = (i : Int) := ⟨r.toNat, by omega⟩
  have hi : i < is.length := by omega
  have va1 := kp_tups S k1 _ _ hva
  dsimp only [gName]
  -- what may stand at a place
  refine ⟨_, rfl, Nat.zero_le _, fun a1 n1 => ?_⟩
  have s1 := same_upd (o := .tup []) n1
  have e1 : (upd H1 a1 (.tup [])) a1 = some (.tup []) := upd_same
  generalize upd H1 a1 (.tup []) = G1 at *
  refine ⟨(by show 1 ≤ sizeLine; decide), fun a2 n2 => ?_⟩
  have s2 := same_upd (o := .tup [.int 1]) n2
  have e2 : (upd G1 a2 (.tup [.int 1])) a2 = some (.tup [.int 1]) := upd_same
  generalize upd G1 a2 (.tup [.int 1]) = G2 at *
  refine ⟨Nat.zero_le _, fun a3 n3 => ?_⟩
  have s3 := same_upd (o := .lst []) n3
  have e3 : (upd G2 a3 (.lst [])) a3 = some (.lst []) := upd_same
  have sa2 := S1.same (s1.trans s2)
  have ne3 := sa2.ne n3
  generalize upd G2 a3 (.lst []) = G3 at *
  refine ⟨(by show 8 ≤ sizeLine; decide), fun a4 n4 => ?_⟩
  have sa3 := sa2.same s3
  have s4 := same_upd (o := .lst [.non, .bl true, .bl false, .str "0", .ref a1, .ref a2, .ref a3, .str "."]) n4
  have e4 : (upd G3 a4 (.lst [.non, .bl true, .bl false, .str "0", .ref a1, .ref a2, .ref a3, .str "."])) a4 = some (.lst [.non, .bl true, .bl false, .str "0", .ref a1, .ref a2, .ref a3, .str "."]) := upd_same
  obtain ⟨ne4a, ne4b, ne4c⟩ := sa3.ne n4
  have sa4 := sa3.same s4
  generalize upd G3 a4 (.lst [.non, .bl true, .bl false, .str "0", .ref a1, .ref a2, .ref a3, .str "."]) = G4 at *
  refine ⟨st, g, l, a4, _, rfl, e4, ne4a, ne4b, ne4c, by simp, by show 8 ≤ 1000; decide, sa4, fun v H2 hv S2 k2 => ?_⟩
  have dv : ∃ d ∈ oddV, DtV [st, g, l] H2 v d := by
    have D4 : DtVs [st, g, l] G4 [.non, .bl true, .bl false, .str "0", .ref a1, .ref a2, .ref a3, .str "."] oddV :=
      .cons .non (.cons (.bl _) (.cons (.bl _) (.cons (.str _) (.cons (dtT sa4 (s4 _ _ (s3 _ _ (s2 _ _ e1))) .nil) (.cons (dtT sa4 (s4 _ _ (s3 _ _ e2)) (.cons (.int 1) .nil)) (.cons (dtL (s4 _ _ e3) ne3 .nil) (.cons (.str _) .nil)))))))
    obtain ⟨d, h1, h2⟩ := D4.mem hv
    exact ⟨d, h1, h2.keep (kpN k2)⟩
  obtain ⟨d0, hd0, dv⟩ := dv
  have va2 := kp_tups sa4 k2 _ _ (s4 _ _ (s3 _ _ (s2 _ _ (s1 _ _ va1))))
  have kH2 : Kp st g l H H2 := ((k1.trans (Kp.of (((s1.trans s2).trans s3).trans s4))).trans k2)
  clear e1 e2 e3 e4 s1 s2 s3 s4 sa2 sa3 sa4 ne3 n1 n2 n3 n4 hv k2 k1 va1 S1
  dsimp only [gName]
  -- one place bent
  have lt : ∀ k, ((is.map V.int).take k).length ≤ 5 := fun k => by rw [List.length_take, lus]; omega
  have ld : ∀ k, ((is.map V.int).drop k).length ≤ 5 := fun k => by rw [List.length_drop, lus]; omega
  refine ⟨_, rfl, _, rfl, _, rfl, sl_any va2 (cut_take (by rw [lus]; omega)) fun p5 G5 s5 h5 _ => ⟨_, rfl, (by show 1 ≤ sizeLine; decide), fun a6 n6 => ?_⟩⟩
  have s6 := same_upd (o := .tup [v]) n6
  have e6 : (upd G5 a6 (.tup [v])) a6 = some (.tup [v]) := upd_same
  generalize upd G5 a6 (.tup [v]) = G6 at *
  refine cat_any (s6 _ _ h5) e6 (by have := lt i; simp only [List.length_cons, List.length_nil]; omega) fun p7 G7 s7 h7 _ => ?_
  have t7 := (s5.trans s6).trans s7
  refine ⟨_, rfl, _, rfl, _, _, rfl, rfl, _, rfl, ?_⟩
  dsimp only [tNoPart]
  refine sl_any (t7 _ _ va2) (show cutV (is.map V.int) (some ((i : Int) + 1)) none = (is.map V.int).drop (i + 1) by rw [show (i : Int) + 1 = ((i + 1 : Nat) : Int) by omega]; exact cut_drop (by rw [lus]; omega)) fun p8 G8 s8 h8 _ => ?_
  refine cat_any (s8 _ _ h7) h8 (by have := lt i; have := ld (i + 1); rw [List.length_append]; simp only [List.length_cons, List.length_nil]; omega) fun p9 G9 s9 h9 _ => ?_
  have t9 := (t7.trans s8).trans s9
  have va9 := t9 _ _ va2
  dsimp only [gName]
  -- the list of ways
  refine ⟨_, rfl, 1, rfl, _, rfl, sl_any va9 (cut_m1 _) fun p10 G10 s10 h10 _ => ⟨_, rfl, (by show 1 ≤ sizeLine; decide), fun a11 n11 => ?_⟩⟩
  have s11 := same_upd (o := .tup [.int 0]) n11
  have e11 : (upd G10 a11 (.tup [.int 0])) a11 = some (.tup [.int 0]) := upd_same
  generalize upd G10 a11 (.tup [.int 0]) = G11 at *
  refine cat_any (s11 _ _ (s10 _ _ va9)) e11 (by rw [lus]; simp only [List.length_cons, List.length_nil]; omega) fun p12 G12 s12 h12 _ => ?_
  refine ⟨_, rfl, va, _, rfl, .inr (.inl (.inl (s12 _ _ (s11 _ _ (s10 _ _ va9))))), fun l13 n13 => ?_⟩
  have S12 := S2.same (((t9.trans s10).trans s11).trans s12)
  have ne13 := S12.ne n13
  have s13 := same_upd (o := .lst (is.map V.int)) n13
  have e13 : (upd G12 l13 (.lst (is.map V.int))) l13 = some (.lst (is.map V.int)) := upd_same
  generalize upd G12 l13 (.lst (is.map V.int)) = G13 at *
  refine ⟨_, rfl, (by show 4 ≤ sizeLine; decide), fun l14 n14 => ?_⟩
  have s14 := same_upd (o := .lst [.ref p10, .ref p12, .ref l13, .ref p9]) n14
  have e14 : (upd G13 l14 (.lst [.ref p10, .ref p12, .ref l13, .ref p9])) l14 = some (.lst [.ref p10, .ref p12, .ref l13, .ref p9]) := upd_same
  dsimp only [gName]
  generalize upd G13 l14 (.lst [.ref p10, .ref p12, .ref l13, .ref p9]) = G14 at *
  refine ⟨_, rfl, _, rfl, Nat.zero_le _, fun l15 n15 => ?_⟩
  have S14 := (S12.same s13).same s14
  have ne15 := S14.ne n15
  have s15 := same_upd (o := .lst []) n15
  have e15 : (upd G14 l15 (.lst [])) l15 = some (.lst []) := upd_same
  generalize upd G14 l15 (.lst []) = G15 at *
  refine ⟨_, rfl, (by show 1 ≤ sizeLine; decide), fun a16 n16 => ?_⟩
  have s16 := same_upd (o := .tup [.ref va]) n16
  have e16 : (upd G15 a16 (.tup [.ref va])) a16 = some (.tup [.ref va]) := upd_same
  generalize upd G15 a16 (.tup [.ref va]) = G16 at *
  refine ⟨(by show 6 ≤ sizeLine; decide), fun l17 n17 => ?_⟩
  have s17 := same_upd (o := .lst [.non, .bl true, .int 0, .str "", .ref l15, .ref a16]) n17
  have e17 : (upd G16 l17 (.lst [.non, .bl true, .int 0, .str "", .ref l15, .ref a16])) l17 = some (.lst [.non, .bl true, .int 0, .str "", .ref l15, .ref a16]) := upd_same
  generalize upd G16 l17 (.lst [.non, .bl true, .int 0, .str "", .ref l15, .ref a16]) = G17 at *
  have S17 := ((S14.same s15).same s16).same s17
  refine ⟨l14, l17, _, _, rfl, rfl, s17 _ _ (s16 _ _ (s15 _ _ e14)), e17, (by show 4 + 6 ≤ sizeLine; decide), fun l18 n18 => ?_⟩
  obtain ⟨c1, c2, c3⟩ := S17.ne n18
  have s18 := same_upd (o := .lst ([.ref p10, .ref p12, .ref l13, .ref p9] ++ [.non, .bl true, .int 0, .str "", .ref l15, .ref a16])) n18
  have e18 : (upd G17 l18 (.lst ([.ref p10, .ref p12, .ref l13, .ref p9] ++ [.non, .bl true, .int 0, .str "", .ref l15, .ref a16]))) l18 = some (.lst ([.ref p10, .ref p12, .ref l13, .ref p9] ++ [.non, .bl true, .int 0, .str "", .ref l15, .ref a16])) := upd_same
  generalize upd G17 l18 (.lst ([.ref p10, .ref p12, .ref l13, .ref p9] ++ [.non, .bl true, .int 0, .str "", .ref l15, .ref a16])) = G18 at *
  have S18 := S17.same s18
  have u17 := s18
  have u16 := s17.trans u17
  have u15 := s16.trans u16
  have u14 := s15.trans u15
  have u13 := s14.trans u14
  have u12 := s13.trans u13
  have u11 := s12.trans u12
  have u10 := s11.trans u11
  have u9 := s10.trans u10
  refine ⟨st, g, l, l18, _, rfl, e18, c1, c2, c3, by simp, by show 10 ≤ 1000; decide, S18, fun v3 H3 hv3 S3 k3 => ?_⟩
  have kF : Kp st g l H H3 := (kH2.trans (Kp.of (t9.trans u9))).trans k3
  have va18 := u9 _ _ va9
  have dva : DtV [st, g, l] G18 (.ref va) (intsD is) := dtT S18 va18 (dtvs_int is)
  have numT : ∀ k, ∀ x ∈ is.take k, Num x := fun k x hx => hnum x (List.mem_of_mem_take hx)
  have numD : ∀ k, ∀ x ∈ is.drop k, Num x := fun k x hx => hnum x (List.mem_of_mem_drop hx)
  have fin : ∀ {x : V} {d : PyData}, DtV [st, g, l] G18 x d → WrongD is.length d → v3 = x → Q v3 H3 := fun {x d} hx hw e => by
    rw [e]
    exact q x d H3 (hx.keep (kpN k3)) hw S3 kF
  simp only [List.mem_append, List.mem_cons, List.not_mem_nil, or_false] at hv3
  rcases hv3 with (e | e | e | e) | (e | e | e | e | e | e)
  · refine fin (d := intsD is.dropLast) (dtT S18 (u10 _ _ h10) ?_) (wrong_len (fun x hx => hnum x (List.mem_of_mem_take (i := is.length - 1) (by rw [← List.dropLast_eq_take]; exact hx))) (by rw [List.length_dropLast]; omega) (by rw [List.length_dropLast]; omega)) e
    rw [← List.map_dropLast]
    exact dtvs_int _
  · refine fin (d := intsD (is ++ [0])) (dtT S18 (u12 _ _ h12) ?_) (wrong_len (fun x hx => ?_) (by simp; omega) (by simp)) e
    · rw [show is.map V.int ++ [V.int 0] = (is ++ [0]).map V.int by simp]
      exact dtvs_int _
    · rcases List.mem_append.mp hx with hx | hx
      · exact hnum x hx
      · have e : x = 0 := by simpa using hx
        rw [e]
        exact num_small (by decide)
  · exact fin (dtL (u13 _ _ e13) ne13 (dtvs_int is)) (wrong_list hnum l5) e
  · refine fin (d := .tuple ((is.take i).map PyData.int ++ [d0] ++ (is.drop (i + 1)).map PyData.int)) (dtT S18 (u9 _ _ h9) ?_) (wrong_bent (numT i) (numD (i + 1)) (by rw [List.length_take, List.length_drop]; omega) hd0) e
    have dv18 : DtV [st, g, l] G18 v d0 := dv.same (t9.trans u9)
    rw [← List.map_take, ← List.map_drop]
    exact ((dtvs_int _).app (.cons dv18 .nil)).app (dtvs_int _)
  · exact fin .non (wrong_flat _ (by simp)) e
  · exact fin (.bl true) (wrong_flat _ (by simp)) e
  · exact fin (.int 0) (wrong_flat _ (by simp)) e
  · exact fin (.str "") (wrong_flat _ (by simp)) e
  · exact fin (dtL (u15 _ _ e15) ne15 .nil) (wrong_flat _ (by simp)) e
  · exact fin (dtT S18 (u16 _ _ e16) (.cons dva .nil)) (wrong_in hnum l5) e
end
end Lx

namespace Pt
open PySem PySem.Spec PyProof.Rows L2 Ub Ur Ug Ue Up Uo Vk Ve Wb
/-! ### the content by paths -/
def intW (M : Pg) (c : Cell) (ws : List Str) : Int := match walk M c ws with
  | some (.int i) => i
  | _ => 0
/-- the paths of plain values -/
def plW (t : Tr) : List (List Str × Tr) := (wpaths t).filter fun m => m.2.isNil
theorem walk_part {M : Pg} {q : Addr} {n : Nd} {w : Str} {c : Cell} {ws : List Str} (hq : M q = some n) (hl : n.cs.lookup w = some c) : walk M (.part q) (w :: ws) = walk M c ws := by
  show (match M q with | none => none | some n => match n.cs.lookup w with | none => none | some c' => walk M c' ws) = _
  rw [hq]
  show (match n.cs.lookup w with | none => none | some c' => walk M c' ws) = _
  rw [hl]
theorem cellC_walk {C : Cp3} {Z : Addr → Prop} {H : Hp} {M : Pg} (h : PgOk C Z H M) : ∀ (d : Nat) {t : Tr} {c : Cell}, Fits M t c → t.depth ≤ d → cellC M d c = (plW t).map fun m => intW M c m.1
  | d, t, .int i, hf, _ => by
    have e : t = .nil := Tr.nil_of hf
    rw [e]
    rfl
  | 0, t, .part q, hf, hd => by
    have e : t = .nil := depth0 (by omega)
    rw [e] at hf
    cases hf.1
  | d + 1, t, .part q, hf, hd => by
    obtain ⟨hn, n, hq, et⟩ := hf
    show cont M (d + 1) q = _
    have N := h.nd q n hq
    rw [cont_eq hq]
    have e0 : plW t = (wfp t).filter fun m => m.2.isNil := by
      show (([], t) :: wfp t).filter _ = _
      rw [List.filter_cons, hn]
      rfl
    rw [e0]
    have cs := N.cs
    rw [et] at cs
    have lk : ∀ c ∈ n.cs, n.cs.lookup c.1 = some c.2 := fun c hc => lookup_at N.nodup hc
    have dp : ∀ f ∈ t.fields, f.2.depth ≤ d := fun f hf => by have := Tr.depth_lt hf; omega
    clear e0 hn hd et
    have key : ∀ (r : Tr) {cs : List (Str × Cell)}, CsOk M r.fields cs → (∀ c ∈ cs, n.cs.lookup c.1 = some c.2) → (∀ f ∈ r.fields, f.2.depth ≤ d) → (cs.flatMap fun c => cellC M d c.2) = ((wfp r).filter fun m => m.2.isNil).map fun m => intW M (.part q) m.1 := by
      intro r
      induction r with
      | nil =>
        intro cs hc _ _
        cases cs with
        | nil => rfl
        | cons _ _ => exact hc.elim
      | cons w u r _ ih =>
        intro cs hc hl hd
        cases cs with
        | nil => exact hc.elim
        | cons c cs =>
          have hc : c.1 = w ∧ Fits M u c.2 ∧ CsOk M r.fields cs := hc
          have l0 := hl c (List.mem_cons_self ..)
          rw [hc.1] at l0
          show cellC M d c.2 ++ (cs.flatMap fun c => cellC M d c.2) = (((wpaths u).map fun m => (w :: m.1, m.2)) ++ wfp r |>.filter fun m => m.2.isNil).map _
          rw [List.filter_append, List.map_append, ih hc.2.2 (fun c hc => hl c (List.mem_cons_of_mem _ hc)) (fun f hf => hd f (List.mem_cons_of_mem _ hf)), cellC_walk h d hc.2.1 (hd (w, u) (List.mem_cons_self ..)), List.filter_map, List.map_map]
          congr 1
          unfold plW
          have ef : ((fun m : List Str × Tr => m.2.isNil) ∘ fun m : List Str × Tr => (w :: m.1, m.2)) = fun m : List Str × Tr => m.2.isNil := rfl
          rw [ef]
          apply List.map_congr_left
          intro m _
          show intW M c.2 m.1 = intW M (.part q) (w :: m.1)
          unfold intW
          rw [walk_part hq l0]
    exact key t cs lk dp
theorem plain_walk {C : Cp3} {Z : Addr → Prop} {H : Hp} {M : Pg} (h : PgOk C Z H M) {t : Tr} {c : Cell} (hf : Fits M t c) {m : List Str × Tr} (hm : m ∈ wpaths t) (hn : m.2.isNil = true) : walk M c m.1 = some (.int (intW M c m.1)) := by
  obtain ⟨c', h1, h2⟩ := walk_ok h hf m hm
  cases c' with
  | int i =>
    unfold intW
    rw [h1]
  | part q =>
    have h2 := h2.1
    rw [hn] at h2
    cases h2
theorem mem_plW {t : Tr} {m : List Str × Tr} : m ∈ plW t ↔ m ∈ wpaths t ∧ m.2.isNil = true := by
  unfold plW
  rw [List.mem_filter]
theorem map_inj {α β : Type} {f g : α → β} : ∀ {l : List α}, l.map f = l.map g → ∀ a ∈ l, f a = g a
  | [], _, a, h => nomatch h
  | b :: l, e, a, h => by
    rw [List.map_cons, List.map_cons] at e
    injection e with e1 e2
    rcases List.mem_cons.mp h with z | h
    · rw [z]; exact e1
    · exact map_inj e2 a h
/-- equal contents, equal values -/
theorem walk_eq {C : Cp3} {Z : Addr → Prop} {H : Hp} {M : Pg} (h : PgOk C Z H M) {t : Tr} {a b : Cell} (ha : Fits M t a) (hb : Fits M t b) (hd : t.depth ≤ 4) (e : cellC M 4 a = cellC M 4 b) : ∀ m ∈ wpaths t, m.2.isNil = true → walk M a m.1 = walk M b m.1 := fun m hm hn => by
  rw [cellC_walk h 4 ha hd, cellC_walk h 4 hb hd] at e
  rw [plain_walk h ha hm hn, plain_walk h hb hm hn, map_inj e m (mem_plW.mpr ⟨hm, hn⟩)]
theorem content_all {C : Cp3} {Z : Addr → Prop} {H : Hp} {M : Pg} (h : PgOk C Z H M) {p : Addr} {n : Nd} {k : Int} (hp : M p = some n) (ha : ∀ m ∈ wpaths n.g.tr, m.2.isNil = true → walk M (.part p) m.1 = some (.int k)) : content M p = List.replicate n.g.tr.plains k := by
  rw [List.eq_replicate_iff]
  refine ⟨content_len h hp, fun b hb => ?_⟩
  have d3 := (good_has (h.nd p n hp).gd).1
  have e : content M p = _ := cellC_walk h 4 (c := .part p) (t := n.g.tr) ⟨(h.nd p n hp).rc, n, hp, rfl⟩ (by omega)
  rw [e] at hb
  obtain ⟨m, hm, rfl⟩ := List.mem_map.mp hb
  obtain ⟨h1, h2⟩ := mem_plW.mp hm
  unfold intW
  rw [ha m h1 h2]
/-! ### paths behind a store -/
theorem lookup_put (w : Str) (c : Cell) (v : Str) : ∀ cs : List (Str × Cell), (putC cs w c).lookup v = if v = w then (cs.lookup v).map fun _ => c else cs.lookup v
  | [] => by
    show (none : Option Cell) = _
    split <;> rfl
  | (w0, c0) :: cs => by
    have ih := lookup_put w c v cs
    show List.lookup v ((if w0 = w then (w0, c) else (w0, c0)) :: putC cs w c) = _
    by_cases e0 : v = w0
    · by_cases e1 : w0 = w
      · rw [if_pos e1, if_pos (e0.trans e1)]
        simp [List.lookup, e0]
      · rw [if_neg e1, if_neg (fun z => e1 (e0.symm.trans z))]
        simp [List.lookup, e0]
    · have b : (v == w0) = false := beq_eq_false_iff_ne.mpr e0
      by_cases e1 : w0 = w
      · rw [if_pos e1, List.lookup, b]
        show List.lookup v (putC cs w c) = _
        rw [ih]
        simp [List.lookup, b]
      · rw [if_neg e1, List.lookup, b]
        show List.lookup v (putC cs w c) = _
        rw [ih]
        simp [List.lookup, b]
theorem setN_at {M : Pg} {q r : Addr} {w : Str} {c : Cell} {n : Nd} (hr : M r = some n) : ∃ n', setN M q w c r = some n' ∧ ∀ v, n'.cs.lookup v = if r = q ∧ v = w then (n.cs.lookup v).map fun _ => c else n.cs.lookup v := by
  unfold setN
  by_cases e : r = q
  · rw [if_pos e, ← e, hr]
    refine ⟨_, rfl, fun v => ?_⟩
    show (putC n.cs w c).lookup v = _
    rw [lookup_put]
    by_cases ev : v = w
    · rw [if_pos ev, if_pos ⟨rfl, ev⟩]
    · rw [if_neg ev, if_neg (fun z => ev z.2)]
  · rw [if_neg e]
    exact ⟨n, hr, fun v => by rw [if_neg (fun z => e z.1)]⟩
/-- one step down -/
theorem step_down {C : Cp3} {Z : Addr → Prop} {H : Hp} {M : Pg} (h : PgOk C Z H M) {t u : Tr} {c : Cell} {v : Str} {ws : List Str} (hf : Fits M t c) (hm : (v :: ws, u) ∈ wpaths t) : ∃ r n c1 f, c = .part r ∧ M r = some n ∧ f ∈ n.g.tr.fields ∧ f.1 = v ∧ n.cs.lookup v = some c1 ∧ Fits M f.2 c1 ∧ (ws, u) ∈ wpaths f.2 := by
  obtain ⟨f, hff, ev, hm2⟩ := wp_cons hm
  cases c with
  | int j =>
    have e : t = .nil := Tr.nil_of hf
    rw [e] at hff
    exact nomatch hff
  | part r =>
    obtain ⟨hn, n, hr, et⟩ := hf
    rw [← et] at hff
    have N := h.nd r n hr
    obtain ⟨c1, k1, k2⟩ := N.cs.mem hff
    exact ⟨r, n, c1, f, rfl, hr, hff, ev, by rw [← ev]; exact lookup_at N.nodup k1, k2, hm2⟩
theorem field_eq {t : Tr} (h : good t) {f g : Str × Tr} (hf : f ∈ t.fields) (hg : g ∈ t.fields) (e : f.1 = g.1) : f = g := by
  have hn := (good_fields h).2
  generalize t.fields = l at *
  clear h
  induction l with
  | nil => exact nomatch hf
  | cons a l ih =>
    obtain ⟨k1, k2⟩ := List.nodup_cons.mp hn
    rcases List.mem_cons.mp hf with ea | hf
    · rcases List.mem_cons.mp hg with eb | hg
      · rw [ea, eb]
      · exact absurd (List.mem_map.mpr ⟨g, hg, by rw [← e, ea]⟩) k1
    · rcases List.mem_cons.mp hg with eb | hg
      · exact absurd (List.mem_map.mpr ⟨f, hf, by rw [e, eb]⟩) k1
      · exact ih hf hg k2
section
variable {C : Cp3} {Z : Addr → Prop} {H : Hp} {M : Pg} {q : Addr} {nq : Nd} {w : Str} {u : Tr}
/-- a plain value set: values that are so stay so -/
theorem walk_int (h : PgOk C Z H M) (hq : M q = some nq) (hw : (w, u) ∈ nq.g.tr.fields) (hu : u.isNil = true) {k : Int} : ∀ (ws : List Str) {t v : Tr} {c : Cell}, Fits M t c → (ws, v) ∈ wpaths t → v.isNil = true → walk M c ws = some (.int k) → walk (setN M q w (.int k)) c ws = some (.int k)
  | [], t, v, c, _, _, _, e => e
  | x :: ws, t, v, c, hf, hm, hv, e => by
    obtain ⟨r, n, c1, f, rfl, hr, hff, ev, hl, hf1, hm1⟩ := step_down h hf hm
    rw [walk_part hr hl] at e
    obtain ⟨n', k1, k2⟩ := setN_at (q := q) (w := w) (c := .int k) hr
    have k2 := k2 x
    by_cases z : r = q ∧ x = w
    · rw [if_pos z, hl] at k2
      rw [walk_part k1 k2]
      rw [z.1, hq] at hr
      cases hr
      have ef := field_eq (h.nd q nq hq).gd hff hw (by rw [ev]; exact z.2)
      rw [ef, Tr.nil_of hu] at hm1
      rcases List.mem_cons.mp hm1 with e1 | e1
      · rw [(Prod.mk.inj e1).1]
        rfl
      · exact nomatch e1
    · rw [if_neg z, hl] at k2
      rw [walk_part k1 k2]
      exact walk_int h hq hw hu ws hf1 hm1 hv e
/-- the way to a part stays -/
theorem walk_to (h : PgOk C Z H M) (hq : M q = some nq) {c' c0 : Cell} (h0 : nq.cs.lookup w = some c0) (hi : ∃ i, c0 = .int i) {r' : Addr} : ∀ (ws : List Str) {c : Cell}, walk M c ws = some (.part r') → walk (setN M q w c') c ws = some (.part r')
  | [], c, e => e
  | x :: ws, c, e => by
    cases c with
    | int j => cases e
    | part r =>
      cases hr : M r with
      | none =>
        have e : (match M r with | none => none | some n => match n.cs.lookup x with | none => none | some c' => walk M c' ws) = some (Cell.part r') := e
        rw [hr] at e
        cases e
      | some n =>
        cases hl : n.cs.lookup x with
        | none =>
          have e : (match M r with | none => none | some n => match n.cs.lookup x with | none => none | some c' => walk M c' ws) = some (Cell.part r') := e
          rw [hr] at e
          have e : (match n.cs.lookup x with | none => none | some c' => walk M c' ws) = some (Cell.part r') := e
          rw [hl] at e
          cases e
        | some c1 =>
          rw [walk_part hr hl] at e
          obtain ⟨n', k1, k2⟩ := setN_at (q := q) (w := w) (c := c') hr
          have k2 := k2 x
          by_cases z : r = q ∧ x = w
          · rw [z.1, hq] at hr
            cases hr
            rw [z.2, h0] at hl
            cases hl
            obtain ⟨i, rfl⟩ := hi
            cases ws with
            | nil => cases e
            | cons _ _ => cases e
          · rw [if_neg z, hl] at k2
            rw [walk_part k1 k2]
            exact walk_to h hq h0 hi ws e
theorem walk_target (h : PgOk C Z H M) (hq : M q = some nq) (hw : (w, u) ∈ nq.g.tr.fields) (hu : u.isNil = true) {k : Int} {p : Addr} {ds : List Str} (wk : walk M (.part p) ds = some (.part q)) : walk (setN M q w (.int k)) (.part p) (ds ++ [w]) = some (.int k) := by
  have N := h.nd q nq hq
  obtain ⟨c0, k1, k2⟩ := N.cs.mem hw
  have l0 := lookup_at N.nodup k1
  have ci : ∃ i, c0 = .int i := by
    cases c0 with
    | int i => exact ⟨i, rfl⟩
    | part r =>
      have k2 : u.isNil = false ∧ _ := k2
      rw [hu] at k2
      cases k2.1
  obtain ⟨n', e1, e2⟩ := setN_at (q := q) (w := w) (c := .int k) hq
  have e2 := e2 w
  rw [if_pos ⟨rfl, rfl⟩, l0] at e2
  exact walk_snoc e1 e2 (walk_to h hq l0 ci ds wk)
/-- a part of equal content set: all values stay -/
theorem walk_copy (h : PgOk C Z H M) (hq : M q = some nq) (hw : (w, u) ∈ nq.g.tr.fields) {c0 : Cell} {x : Addr} (h0 : nq.cs.lookup w = some c0) (hx : Fits M u (.part x)) (he : ∀ m ∈ wpaths u, m.2.isNil = true → walk M (.part x) m.1 = walk M c0 m.1) :
    ∀ (ws : List Str) {t v : Tr} {c : Cell}, Fits M t c → (ws, v) ∈ wpaths t → v.isNil = true → walk (setN M q w (.part x)) c ws = walk M c ws
  | [], t, v, c, _, _, _ => rfl
  | y :: ws, t, v, c, hf, hm, hv => by
    obtain ⟨r, n, c1, f, rfl, hr, hff, ev, hl, hf1, hm1⟩ := step_down h hf hm
    rw [walk_part hr hl]
    obtain ⟨n', k1, k2⟩ := setN_at (q := q) (w := w) (c := .part x) hr
    have k2 := k2 y
    by_cases z : r = q ∧ y = w
    · rw [if_pos z, hl] at k2
      rw [walk_part k1 k2]
      rw [z.1, hq] at hr
      cases hr
      have ef := field_eq (h.nd q nq hq).gd hff hw (by rw [ev]; exact z.2)
      rw [ef] at hm1
      rw [z.2, h0] at hl
      cases hl
      rw [walk_copy h hq hw h0 hx he ws hx hm1 hv]
      exact he _ hm1 hv
    · rw [if_neg z, hl] at k2
      rw [walk_part k1 k2]
      exact walk_copy h hq hw h0 hx he ws hf1 hm1 hv
end
/-- what is no dict stays -/
def Kd (H H' : Hp) : Prop := ∀ b o, H b = some o → (∀ l, o ≠ .dK l) → H' b = some o
theorem Kd.refl (H : Hp) : Kd H H := fun _ _ e _ => e
theorem Kd.trans {H H1 H2 : Hp} (a : Kd H H1) (b : Kd H1 H2) : Kd H H2 := fun c o e n => b c o (a c o e n) n
theorem Kd.of {H H' : Hp} (s : Same H H') : Kd H H' := fun b o e _ => s b o e
theorem Kd.put {H : Hp} {cd : Addr} {l : List (Key × V)} {o : HO} (h : H cd = some (.dK l)) : Kd H (upd H cd o) := fun b o' e n => by
  rw [upd_ne (fun z => by rw [z, h] at e; cases e; exact n _ rfl)]
  exact e
theorem walk_mono {M M' : Pg} (old : ∀ p n, M p = some n → M' p = some n) : ∀ (ws : List Str) {c c' : Cell}, walk M c ws = some c' → walk M' c ws = some c'
  | [], c, c', e => e
  | x :: ws, c, c', e => by
    cases c with
    | int j => cases e
    | part p =>
      cases hp : M p with
      | none =>
        have e : (match M p with | none => none | some n => match n.cs.lookup x with | none => none | some c' => walk M c' ws) = some c' := e
        rw [hp] at e
        cases e
      | some n =>
        cases hl : n.cs.lookup x with
        | none =>
          have e : (match M p with | none => none | some n => match n.cs.lookup x with | none => none | some c' => walk M c' ws) = some c' := e
          rw [hp] at e
          have e : (match n.cs.lookup x with | none => none | some c' => walk M c' ws) = some c' := e
          rw [hl] at e
          cases e
        | some c1 =>
          rw [walk_part hp hl] at e
          rw [walk_part (old _ _ hp) hl]
          exact walk_mono old ws e
/-- two lists of the same data are not unlike -/
theorem ne_same {K : PySem.W.Frag} {H : Hp} {a b : Addr} {xs : List V} {ds : List PyData} {Q : VK} (ha : H a = some (.lst xs)) (hb : H b = some (.lst xs)) (hd : DtVs [] H xs ds) (hs : SeqAt.shaped (.list ds) = true) (q : Q (.bl false) H) : rNeD K (.ref a) (.ref b) H Q := by
  refine ⟨.list ds, .list ds, (DtV.lst (N := []) ha (by simp) hd).dp, (DtV.lst (N := []) hb (by simp) hd).dp, hs, hs, ?_⟩
  rw [SeqAt.eqv_refl _ (SeqAt.canLay_of_shaped hs)]
  exact q
/-- what a part below has, the part has -/
theorem cont_sub {M : Pg} {r : Addr} {d : Nat} : ∀ (ws : List Str) {c : Cell}, walk M c ws = some (.part r) → ∀ i ∈ cont M d r, i ∈ cellC M (d + ws.length) c
  | [], c, e, i, hi => by
    have e : c = .part r := Option.some.inj e
    rw [e]
    exact hi
  | x :: ws, c, e, i, hi => by
    cases c with
    | int j => cases e
    | part p =>
      cases hp : M p with
      | none =>
        have e : (match M p with | none => none | some n => match n.cs.lookup x with | none => none | some c' => walk M c' ws) = some (Cell.part r) := e
        rw [hp] at e
        cases e
      | some n =>
        cases hl : n.cs.lookup x with
        | none =>
          have e : (match M p with | none => none | some n => match n.cs.lookup x with | none => none | some c' => walk M c' ws) = some (Cell.part r) := e
          rw [hp] at e
          have e : (match n.cs.lookup x with | none => none | some c' => walk M c' ws) = some (Cell.part r) := e
          rw [hl] at e
          cases e
        | some c1 =>
          rw [walk_part hp hl] at e
          have ih := cont_sub ws e i hi
          show i ∈ cont M (d + ws.length + 1) p
          rw [cont_eq hp]
          have mem : ∀ {cs : List (Str × Cell)}, cs.lookup x = some c1 → (x, c1) ∈ cs := by
            intro cs
            induction cs with
            | nil => intro h; cases h
            | cons a cs ih =>
              intro h
              obtain ⟨a1, a2⟩ := a
              rw [List.lookup] at h
              by_cases b : (x == a1) = true
              · rw [b] at h
                have e1 : x = a1 := by simpa using b
                have e2 : a2 = c1 := Option.some.inj h
                rw [e1, e2]
                exact List.mem_cons_self ..
              · have b : (x == a1) = false := by simpa using b
                rw [b] at h
                exact List.mem_cons_of_mem _ (ih h)
          exact List.mem_flatMap.mpr ⟨(x, c1), mem hl, ih⟩
theorem content_sub {C : Cp3} {Z : Addr → Prop} {H : Hp} {M : Pg} (h : PgOk C Z H M) {p r : Addr} {n : Nd} {ws : List Str} (hp : M p = some n) (e : walk M (.part p) ws = some (.part r)) : ∀ i ∈ content M r, i ∈ content M p := fun i hi => by
  have := cont_sub (d := 4) ws e i hi
  have d3 := (good_has (h.nd p n hp).gd).1
  have e : cellC M (4 + ws.length) (.part p) = content M p := cont_at h hp (by omega) ws.length
  rw [e] at this
  exact this
def odd6 : List PyData := [.none, .bool true, .str "1", .tuple [], .tuple [.int 1], .list [.int 2]]
theorem odd6_ok : ∀ d ∈ odd6, isIntD d = false ∧ rpOk d = true := by
  intro d hd
  have h1 := List.all_eq_true.mp (show odd6.all (fun d => !isIntD d && rpOk d) = true by decide +kernel) d hd
  simp only [Bool.and_eq_true, Bool.not_eq_true'] at h1
  exact h1
mutual
theorem dt_one {H : Hp} : ∀ {v : V} {d d' : PyData}, DtV [] H v d → DtV [] H v d' → d = d'
  | _, _, _, .non, .non => rfl
  | _, _, _, .bl b, .bl _ => rfl
  | _, _, _, .int i, .int _ => rfl
  | _, _, _, .str z, .str _ => rfl
  | _, _, _, .lst e1 _ q1, .lst e2 _ q2 => by
    rw [e1] at e2
    cases e2
    rw [dts_one q1 q2]
  | _, _, _, .tup e1 _ q1, .tup e2 _ q2 => by
    rw [e1] at e2
    cases e2
    rw [dts_one q1 q2]
  | _, _, _, .lst e1 _ _, .tup e2 _ _ => by
    rw [e1] at e2
    cases e2
  | _, _, _, .tup e1 _ _, .lst e2 _ _ => by
    rw [e1] at e2
    cases e2
theorem dts_one {H : Hp} : ∀ {xs : List V} {ds ds' : List PyData}, DtVs [] H xs ds → DtVs [] H xs ds' → ds = ds'
  | _, _, _, .nil, .nil => rfl
  | _, _, _, .cons a b, .cons a' b' => by rw [dt_one a a', dts_one b b']
end
end Pt

namespace Lx
open PySem PySem.Spec PyProof.Rows L2 Ub Ur Ug Ue Up Uo Ve Va
section
variable {P : Program} {w : World} {K : PySem.W.Frag} {mg : Str → Option Value} {base : Heap}
theorem sc_law_paths : FnScope ["_law_tree_here", "_law_found", "_law_word_here", "_law_field", "_law_path", "_law_below"] ["_law_tree_here"] (defScope s_law_paths) := ⟨rfl, rfl, rfl, by decide +kernel, rfl, by decide +kernel, by decide +kernel⟩
theorem ok_law_paths {f : Addr} {fd : FuncData} (F : FunD K "_law_paths" "_law_paths" (defArgs s_law_paths) (defBody s_law_paths) (defScope s_law_paths) [] [] f fd) (T : Tx K mg) (hm : mg "_law_paths" = some (.ref f)) (hb : Binds K fd ["_law_tree_here"] []) : ∀ d, FnOk P w K mg base CX0 d f fd ["_law_tree_here"] (sp_lpaths d)
  | 0 => no_lpaths
  | d + 1 => by
    have c_law_paths : Cal P w K mg base d "_law_paths" ["_law_tree_here"] (sp_lpaths d) := ⟨f, fd, ok_law_paths F T hm hb d, hm, F.kp, hb⟩
    refine F.ok sc_law_paths (fun vs H Q E h => by obtain ⟨t, v, rfl, _⟩ := h; rfl) (fun cdv A outer s H vs Q E hr h => ?_)
    obtain ⟨t, v, rfl, hv, hd, hg, q⟩ := h
    refine ⟨_, PSs.nox (pss_cons (ps_set (i := 1) sc_law_paths.nd rfl (by first | exact Or.inl rfl | exact Or.inr rfl) (pe_lst (pa_cons (pe_tup (pa_cons pe_str (pa_cons (pv 0) pa_nil))) pa_nil)))
      (pss_cons (ps_for PassesOwn.never rfl (pi_tupK K (pv 0)) (pg_tupK K (n := 2) rfl (pgs_cons (pg_name (i := 2) sc_law_paths.nd rfl (by first | exact Or.inl rfl | exact Or.inr rfl)) (pgs_cons (pg_name (i := 3) sc_law_paths.nd rfl (by first | exact Or.inl rfl | exact Or.inr rfl)) pgs_nil)))
        (pss_one (ps_for PassesOwn.never rfl (pi_listK K (pe_cal c_law_paths (hr.mono (by omega)) (by rfl) (pa_cons (pv 3) pa_nil))) (pg_tupK K (n := 2) rfl (pgs_cons (pg_name (i := 4) sc_law_paths.nd rfl (by first | exact Or.inl rfl | exact Or.inr rfl)) (pgs_cons (pg_name (i := 5) sc_law_paths.nd rfl (by first | exact Or.inl rfl | exact Or.inr rfl)) pgs_nil)))
            (pss_one (ps_expr (pe_bmK K PySem.F.plainAttrs_list PySem.F.slot_list_append PySem.F.type_list_append mt_append (pv 1) (pa_cons (pe_tup (pa_cons (pe_op op_add_str (pe_op op_add_str pe_str (pv 2)) (pe_ifExp (pt_cmpR op_eq (pv 4) pe_str (nomark _)) pe_str (pv 4))) (pa_cons (pv 5) pa_nil))) pa_nil)))))))
      (pss_one (ps_ret (pv 1))))), ?_⟩
    obtain ⟨hdep, hsz, hsh⟩ := good_has hg
    obtain ⟨a, us, rfl, ha, hf⟩ := id hv
    have lp := hf.len
    refine ⟨_, rfl, (by show 2 ≤ sizeLine; decide), fun T0 nT0 => ⟨(by show 1 ≤ sizeLine; decide), fun D nD => ?_⟩⟩
    have s0 := (same_upd (o := .tup [.str ".", .ref a]) nT0).trans (same_upd (o := .lst [.ref T0]) nD)
    have nDT : T0 ≠ D := fun z => by rw [z, upd_same] at nD; cases nD
    have nDH : H D = none := (same_upd (o := .tup [.str ".", .ref a]) nT0).free nD
    dsimp only [gName]
    refine absH fun H1 e1 => ?_
    have e1 : H1 = upd (upd H T0 (.tup [.str ".", .ref a])) D (.lst [.ref T0]) := e1
    have dD1 : H1 D = some (.lst [.ref T0]) := by rw [e1]; exact upd_same
    have dT1 : H1 T0 = some (.tup [.str ".", .ref a]) := by rw [e1, upd_ne nDT]; exact upd_same
    rw [← e1] at s0
    clear e1
    refine ⟨_, rfl, a, rfl, ⟨_, .inl (.inl (s0 _ _ ha))⟩, ?_⟩
    refine for_tup (K := K) (a := a) (xs := us) (fun i σ HH => ∃ y2 y3 y4 y5 ps, σ = [some (.ref a), some (.ref D), y2, y3, y4, y5] ∧ Same H HH ∧ HH D = some (.lst ps) ∧ FsAt HH (.ofFields (upto t i)) ps) ?_ (fun i σ HH _ p => ?_) (fun i x σ HH hx p => ?_) (fun σ HH p => ?_)
    · refine ⟨_, _, _, _, _, rfl, s0, dD1, ?_⟩
      exact FsAt.snoc (l := []) (ps := []) rfl dT1 (hv.same s0)
    · obtain ⟨_, _, _, _, _, _, s1, _⟩ := p
      exact .inl (.inl (s1 _ _ ha))
    rotate_left
    · obtain ⟨y2, y3, y4, y5, ps, rfl, s1, dD, fD⟩ := p
      rw [lp, upto_all] at fD
      exact ⟨_, rfl, q D ps HH s1 nDH dD fD⟩
    obtain ⟨y2, y3, y4, y5, ps, rfl, s1, dD, fD⟩ := p
    have hi : i < t.fields.length := by
      rw [← lp]
      exact (List.getElem?_eq_some_iff.mp hx).1
    have hm : t.fields[i]? = some t.fields[i] := List.getElem?_eq_getElem hi
    generalize t.fields[i] = m at hm
    have hmm := List.mem_of_getElem? hm
    obtain ⟨pp, q', g1, g2, g3⟩ := hf.get hm
    rw [g1] at hx
    cases hx
    have dl := Tr.depth_lt hmm
    obtain ⟨gm, gw⟩ := (good_fields hg).1 m hmm
    obtain ⟨md, ms, mh⟩ := good_has gm
    have w8 := (isWord_iff.mp gw).2.1
    refine ⟨pp, _, rfl, .inl (.inl (s1 _ _ g2)), rfl, _, _, rfl, _, _, rfl, rfl, ?_⟩
    refine ⟨_, rfl, m.2, q', rfl, g3.same s1, by omega, gm, fun D2 ps2 H2 s2 nD2H hD2 f2 => ?_⟩
    have nD2 : D2 ≠ D := fun z => by rw [z, dD] at nD2H; cases nD2H
    refine ⟨D2, rfl, ⟨_, .inl (.inl hD2)⟩, ?_⟩
    refine for_list (K := K) (a := D2) (xs := ps2) (fun j σ HH => ∃ y4 y5 ps, σ = [some (.ref a), some (.ref D), some (.str m.1), some q', y4, y5] ∧ Same H HH ∧ HH D2 = some (.lst ps2) ∧ FsAt HH (.ofFields (paths m.2)) ps2 ∧ HH D = some (.lst ps) ∧ FsAt HH (.ofFields (upto t i ++ (sub1 m).take j)) ps) ?_ (fun j σ HH _ p => ?_) (fun j x σ HH hx p => ?_) (fun σ HH p => ?_)
    · refine ⟨_, _, _, rfl, s1.trans s2, hD2, f2, s2 _ _ dD, ?_⟩
      rw [List.take_zero, List.append_nil]
      exact fD.same s2
    · obtain ⟨_, _, _, _, _, z, _⟩ := p
      exact .inl (.inl z)
    rotate_left
    · obtain ⟨y4, y5, ps', rfl, s3, _, _, dD3, fD3⟩ := p
      refine ⟨_, _, _, _, _, rfl, s3, dD3, ?_⟩
      have l2 : ps2.length = (sub1 m).length := by rw [lnF f2]; unfold sub1; rw [List.length_map]
      rw [l2, List.take_length, ← upto_next hm] at fD3
      exact fD3
    obtain ⟨y4, y5, ps', rfl, s4, dd4, ff4, dD4, fD4⟩ := p
    generalize HH = H4 at *
    have hj : j < (paths m.2).length := by
      rw [← lnF ff4]
      exact (List.getElem?_eq_some_iff.mp hx).1
    have hn : (paths m.2)[j]? = some (paths m.2)[j] := List.getElem?_eq_getElem hj
    generalize (paths m.2)[j] = n at hn
    obtain ⟨p2, q2, k1, k2, tq2⟩ := FsAt.get (t := .ofFields (paths m.2)) ff4 (by rw [Tr.fields_of]; exact hn)
    rw [k1] at hx
    cases hx
    have ln := (paths_good 3 md gm n (List.mem_of_getElem? hn)).l
    refine ⟨p2, _, rfl, .inl (.inl k2), rfl, _, _, rfl, _, _, rfl, rfl, ?_⟩
    refine ⟨_, rfl, .inl ⟨rfl, _, .inl (.inl dD4)⟩, ?_⟩
    refine ⟨_, rfl, _, _, rfl, rfl, sz4 (by rw [dot_len]; omega), ?_⟩
    refine ⟨_, rfl, rfl, _, rfl, ?_⟩
    by_cases c : n.1 = "."
    · refine iteY (by rw [c]) ?_
      refine ⟨_, _, rfl, rfl, sz4 (by rw [len_app, dot_len, show (("" : Str)).length = 0 from rfl]; omega), ?_⟩
      refine ⟨_, rfl, (by show 2 ≤ sizeLine; decide), fun T1 nT1 => ?_⟩
      have sT := same_upd (o := .tup [.str (down m.1 n.1), q2]) nT1
      refine absH fun H5 e5 => ?_
      have e5 : H5 = upd H4 T1 (.tup [.str (down m.1 n.1), q2]) := e5.trans (by unfold down; rw [if_pos c])
      rw [← e5] at sT
      have hT1 : H5 T1 = some (.tup [.str (down m.1 n.1), q2]) := by rw [e5]; exact upd_same
      clear e5
      refine ⟨D, _, _, rfl, rfl, sT _ _ dD4, sz6 (by rw [lnF fD4, List.length_append]; have u1 := upto_len t i; have u2 := List.length_take_le' j (sub1 m); have : (sub1 m).length ≤ 1 + m.2.size := (by unfold sub1; rw [List.length_map]; show (fp m.2).length + 1 ≤ _; rw [fp_len]; omega); omega), ?_⟩
      refine ⟨_, _, _, rfl, same_mut (s4.trans sT) nDH, ?_, ?_, upd_same, ?_⟩
      · rw [upd_ne nD2]; exact sT _ _ dd4
      · exact FsAt.tups (t := .ofFields (paths m.2)) (mut_tups (sT _ _ dD4)) (FsAt.tups (t := .ofFields (paths m.2)) (fun c zs e => sT _ _ e) ff4)
      · have e6 : (sub1 m).take (j + 1) = (sub1 m).take j ++ [(down m.1 n.1, n.2)] := by
          rw [List.take_add_one]
          have : (sub1 m)[j]? = some (down m.1 n.1, n.2) := by unfold sub1; rw [List.getElem?_map, hn]; rfl
          rw [this]
          rfl
        rw [e6, ← List.append_assoc]
        exact FsAt.snoc (FsAt.tups (mut_tups (sT _ _ dD4)) (FsAt.tups (fun c zs e => sT _ _ e) fD4)) (mut_tups (sT _ _ dD4) _ _ hT1) ((tq2.same sT).tups (mut_tups (sT _ _ dD4)))
    · refine iteN (fun z => c (V.str.inj z)) ⟨_, rfl, ?_⟩
      refine ⟨_, _, rfl, rfl, sz4 (by rw [len_app, dot_len]; omega), ?_⟩
      refine ⟨_, rfl, (by show 2 ≤ sizeLine; decide), fun T1 nT1 => ?_⟩
      have sT := same_upd (o := .tup [.str (down m.1 n.1), q2]) nT1
      refine absH fun H5 e5 => ?_
      have e5 : H5 = upd H4 T1 (.tup [.str (down m.1 n.1), q2]) := e5.trans (by unfold down; rw [if_neg c])
      rw [← e5] at sT
      have hT1 : H5 T1 = some (.tup [.str (down m.1 n.1), q2]) := by rw [e5]; exact upd_same
      clear e5
      refine ⟨D, _, _, rfl, rfl, sT _ _ dD4, sz6 (by rw [lnF fD4, List.length_append]; have u1 := upto_len t i; have u2 := List.length_take_le' j (sub1 m); have : (sub1 m).length ≤ 1 + m.2.size := (by unfold sub1; rw [List.length_map]; show (fp m.2).length + 1 ≤ _; rw [fp_len]; omega); omega), ?_⟩
      refine ⟨_, _, _, rfl, same_mut (s4.trans sT) nDH, ?_, ?_, upd_same, ?_⟩
      · rw [upd_ne nD2]; exact sT _ _ dd4
      · exact FsAt.tups (t := .ofFields (paths m.2)) (mut_tups (sT _ _ dD4)) (FsAt.tups (t := .ofFields (paths m.2)) (fun c zs e => sT _ _ e) ff4)
      · have e6 : (sub1 m).take (j + 1) = (sub1 m).take j ++ [(down m.1 n.1, n.2)] := by
          rw [List.take_add_one]
          have : (sub1 m)[j]? = some (down m.1 n.1, n.2) := by unfold sub1; rw [List.getElem?_map, hn]; rfl
          rw [this]
          rfl
        rw [e6, ← List.append_assoc]
        exact FsAt.snoc (FsAt.tups (mut_tups (sT _ _ dD4)) (FsAt.tups (fun c zs e => sT _ _ e) fD4)) (mut_tups (sT _ _ dD4) _ _ hT1) ((tq2.same sT).tups (mut_tups (sT _ _ dD4)))
end
end Lx

namespace Lx
open PySem PySem.Spec PyProof.Rows L2 Ub
section
variable {P : Program} {w : World} {K : PySem.W.Frag} {mg : Str → Option Value} {base : Heap}
theorem sc_law_records : FnScope ["_law_tree_here", "_law_many", "_law_pair"] ["_law_tree_here"] (defScope s_law_records) := ⟨rfl, rfl, rfl, by decide +kernel, rfl, by decide +kernel, by decide +kernel⟩
theorem ok_law_records {f : Addr} {fd : FuncData} (F : FunD K "_law_records" "_law_records" (defArgs s_law_records) (defBody s_law_records) (defScope s_law_records) [] [] f fd) (T : Tx K mg) (hm : mg "_law_records" = some (.ref f)) (hb : Binds K fd ["_law_tree_here"] []) : ∀ d, FnOk P w K mg base CX0 d f fd ["_law_tree_here"] (sp_tree d fun t => .int (t.recs : Nat))
  | 0 => no_tree
  | d + 1 => by
    have c_law_records : Cal P w K mg base d "_law_records" ["_law_tree_here"] (sp_tree d fun t => .int (t.recs : Nat)) := ⟨f, fd, ok_law_records F T hm hb d, hm, F.kp, hb⟩
    refine F.ok sc_law_records (fun vs H Q E h => h.len1) (fun cdv A outer s H vs Q E hr h => ?_)
    obtain ⟨t, v, rfl, ht, hd, hsz, hsh, q⟩ := h
    refine ⟨_, PSs.nox (pss_cons (ps_setLc (i := 1) (own := [("_law_pair", 2)]) (by rfl) sc_law_records.nd rfl rfl (sw_true rfl rfl rfl (by decide +kernel)) (pi_tupK K (pv 0)) (blkOk_by (N := ["_law_tree_here", "_law_many", "_law_pair"]) (sc := (defScope s_law_records)) (by decide +kernel)) (fun _ _ _ _ _ => (pg_name (i := 2) sc_law_records.nd rfl (by first | exact Or.inl rfl | exact Or.inr rfl))) (fun _ _ _ _ _ => pts_nil) (fun _ _ _ _ _ => (pe_cal c_law_records (hr.mono (by omega)) (by rfl) (pa_cons (pe_ix (ix_tupK K) (pv 2) pe_int (fun _ _ => rfl)) pa_nil))))
      (pss_one (ps_ret (pe_ifExp (pt_cmpR (op_eq_nilK K hr.units0) (pv 0) (pe_tup pa_nil) (nomark _)) pe_int (pe_op op_add pe_int (pe_callB (cr_sumK K rfl) (by rfl) T.sum (by decide +kernel) (pa_cons (pv 1) pa_nil))))))), ?_⟩
    obtain ⟨a, ps, rfl, ha, hf⟩ := ht
    have hl := hf.len
    have hfl := t.fields_len
    refine ⟨_, rfl, a, rfl, ⟨_, .inl (.inl ha)⟩, fun D hD => ?_⟩
    refine lcM (walk_tup (xs := ps)) t.fields hl.symm (fun m => some (.int (m.2.recs : Nat))) (fun H s => Same.tup s (.inl (.inl ha))) (sz4 (by omega)) hD (fun i x m H' hx hm' s' => ?_) (fun H1 s2 d1 => ?_)
    · obtain ⟨p, q', g1, g2, g3⟩ := hf.get hm'
      rw [g1] at hx
      cases hx
      intro Q1 Q0 h1 h0
      have dl := Tr.depth_lt (List.mem_of_getElem? hm')
      have sl := Tr.size_mem (List.mem_of_getElem? hm')
      exact ⟨rfl, _, rfl, p, _, 1, q', rfl, rfl, .inl (.inl (s' _ _ g2)), rfl, m.2, q', rfl, g3.same s', by omega, by omega, (Tr.short_mem hsh (List.mem_of_getElem? hm')).2, fun H2 s4 => h1 _ _ rfl s4⟩
    have el : (t.fields.filterMap fun m => some (V.int (m.2.recs : Nat))) = (t.fields.map fun m => ((m.2.recs : Nat) : Int)).map V.int := by
      rw [List.filterMap_eq_map', List.map_map]
      rfl
    rw [el] at d1
    refine ⟨_, rfl, Nat.zero_le _, fun e ne => ?_⟩
    have s3 := same_upd (o := .tup []) ne
    refine ⟨a, e, ps, rfl, rfl, .inl (.inl (s3 _ _ (s2 _ _ ha))), .inl (.inl upd_same), _, rfl, ?_⟩
    refine iteE hf.nil_iff (fun e0 => ?_) (fun e0 => ?_)
    · have := q _ (s2.trans s3)
      rw [Tr.nil_of e0] at this
      exact this
    refine ⟨_, rfl, D, _, rfl, .inl (.inl (s3 _ _ d1)), _, _, rfl, rfl, ?_⟩
    have qq : Q (.int ((t.recs : Nat) : Int)) _ := q _ (s2.trans s3)
    rw [← recs_int e0] at qq
    exact qq
theorem sc_law_plains : FnScope ["_law_tree_here", "_law_many", "_law_pair"] ["_law_tree_here"] (defScope s_law_plains) := ⟨rfl, rfl, rfl, by decide +kernel, rfl, by decide +kernel, by decide +kernel⟩
theorem ok_law_plains {f : Addr} {fd : FuncData} (F : FunD K "_law_plains" "_law_plains" (defArgs s_law_plains) (defBody s_law_plains) (defScope s_law_plains) [] [] f fd) (T : Tx K mg) (hm : mg "_law_plains" = some (.ref f)) (hb : Binds K fd ["_law_tree_here"] []) : ∀ d, FnOk P w K mg base CX0 d f fd ["_law_tree_here"] (sp_tree d fun t => .int (t.plains : Nat))
  | 0 => no_tree
  | d + 1 => by
    have c_law_plains : Cal P w K mg base d "_law_plains" ["_law_tree_here"] (sp_tree d fun t => .int (t.plains : Nat)) := ⟨f, fd, ok_law_plains F T hm hb d, hm, F.kp, hb⟩
    refine F.ok sc_law_plains (fun vs H Q E h => h.len1) (fun cdv A outer s H vs Q E hr h => ?_)
    obtain ⟨t, v, rfl, ht, hd, hsz, hsh, q⟩ := h
    refine ⟨_, PSs.nox (pss_cons (ps_setLc (i := 1) (own := [("_law_pair", 2)]) (by rfl) sc_law_plains.nd rfl rfl (sw_true rfl rfl rfl (by decide +kernel)) (pi_tupK K (pv 0)) (blkOk_by (N := ["_law_tree_here", "_law_many", "_law_pair"]) (sc := (defScope s_law_plains)) (by decide +kernel)) (fun _ _ _ _ _ => (pg_name (i := 2) sc_law_plains.nd rfl (by first | exact Or.inl rfl | exact Or.inr rfl))) (fun _ _ _ _ _ => pts_nil) (fun _ _ _ _ _ => (pe_cal c_law_plains (hr.mono (by omega)) (by rfl) (pa_cons (pe_ix (ix_tupK K) (pv 2) pe_int (fun _ _ => rfl)) pa_nil))))
      (pss_one (ps_ret (pe_ifExp (pt_cmpR (op_eq_nilK K hr.units0) (pv 0) (pe_tup pa_nil) (nomark _)) pe_int (pe_callB (cr_sumK K rfl) (by rfl) T.sum (by decide +kernel) (pa_cons (pv 1) pa_nil)))))), ?_⟩
    obtain ⟨a, ps, rfl, ha, hf⟩ := ht
    have hl := hf.len
    have hfl := t.fields_len
    refine ⟨_, rfl, a, rfl, ⟨_, .inl (.inl ha)⟩, fun D hD => ?_⟩
    refine lcM (walk_tup (xs := ps)) t.fields hl.symm (fun m => some (.int (m.2.plains : Nat))) (fun H s => Same.tup s (.inl (.inl ha))) (sz4 (by omega)) hD (fun i x m H' hx hm' s' => ?_) (fun H1 s2 d1 => ?_)
    · obtain ⟨p, q', g1, g2, g3⟩ := hf.get hm'
      rw [g1] at hx
      cases hx
      intro Q1 Q0 h1 h0
      have dl := Tr.depth_lt (List.mem_of_getElem? hm')
      have sl := Tr.size_mem (List.mem_of_getElem? hm')
      exact ⟨rfl, _, rfl, p, _, 1, q', rfl, rfl, .inl (.inl (s' _ _ g2)), rfl, m.2, q', rfl, g3.same s', by omega, by omega, (Tr.short_mem hsh (List.mem_of_getElem? hm')).2, fun H2 s4 => h1 _ _ rfl s4⟩
    have el : (t.fields.filterMap fun m => some (V.int (m.2.plains : Nat))) = (t.fields.map fun m => ((m.2.plains : Nat) : Int)).map V.int := by
      rw [List.filterMap_eq_map', List.map_map]
      rfl
    rw [el] at d1
    refine ⟨_, rfl, Nat.zero_le _, fun e ne => ?_⟩
    have s3 := same_upd (o := .tup []) ne
    refine ⟨a, e, ps, rfl, rfl, .inl (.inl (s3 _ _ (s2 _ _ ha))), .inl (.inl upd_same), _, rfl, ?_⟩
    refine iteE hf.nil_iff (fun e0 => ?_) (fun e0 => ?_)
    · have := q _ (s2.trans s3)
      rw [Tr.nil_of e0] at this
      exact this
    refine ⟨_, rfl, D, _, rfl, .inl (.inl (s3 _ _ d1)), ?_⟩
    have qq : Q (.int ((t.plains : Nat) : Int)) _ := q _ (s2.trans s3)
    rw [← plains_int e0] at qq
    exact qq
theorem sc_law_depth : FnScope ["_law_tree_here", "_law_many", "_law_pair"] ["_law_tree_here"] (defScope s_law_depth) := ⟨rfl, rfl, rfl, by decide +kernel, rfl, by decide +kernel, by decide +kernel⟩
theorem ok_law_depth {f : Addr} {fd : FuncData} (F : FunD K "_law_depth" "_law_depth" (defArgs s_law_depth) (defBody s_law_depth) (defScope s_law_depth) [] [] f fd) (T : Tx K mg) (hm : mg "_law_depth" = some (.ref f)) (hb : Binds K fd ["_law_tree_here"] []) : ∀ d, FnOk P w K mg base CX0 d f fd ["_law_tree_here"] (sp_tree d fun t => .int (t.depth : Nat))
  | 0 => no_tree
  | d + 1 => by
    have c_law_depth : Cal P w K mg base d "_law_depth" ["_law_tree_here"] (sp_tree d fun t => .int (t.depth : Nat)) := ⟨f, fd, ok_law_depth F T hm hb d, hm, F.kp, hb⟩
    refine F.ok sc_law_depth (fun vs H Q E h => h.len1) (fun cdv A outer s H vs Q E hr h => ?_)
    obtain ⟨t, v, rfl, ht, hd, hsz, hsh, q⟩ := h
    refine ⟨_, PSs.nox (pss_cons (ps_setLc (i := 1) (own := [("_law_pair", 2)]) (by rfl) sc_law_depth.nd rfl rfl (sw_true rfl rfl rfl (by decide +kernel)) (pi_tupK K (pv 0)) (blkOk_by (N := ["_law_tree_here", "_law_many", "_law_pair"]) (sc := (defScope s_law_depth)) (by decide +kernel)) (fun _ _ _ _ _ => (pg_name (i := 2) sc_law_depth.nd rfl (by first | exact Or.inl rfl | exact Or.inr rfl))) (fun _ _ _ _ _ => pts_nil) (fun _ _ _ _ _ => (pe_cal c_law_depth (hr.mono (by omega)) (by rfl) (pa_cons (pe_ix (ix_tupK K) (pv 2) pe_int (fun _ _ => rfl)) pa_nil))))
      (pss_one (ps_ret (pe_ifExp (pt_cmpR (op_eq_nilK K hr.units0) (pv 0) (pe_tup pa_nil) (nomark _)) pe_int (pe_op op_add pe_int (pe_callB (cr_maxK K rfl) (by rfl) T.max (by decide +kernel) (pa_cons (pv 1) pa_nil))))))), ?_⟩
    obtain ⟨a, ps, rfl, ha, hf⟩ := ht
    have hl := hf.len
    have hfl := t.fields_len
    refine ⟨_, rfl, a, rfl, ⟨_, .inl (.inl ha)⟩, fun D hD => ?_⟩
    refine lcM (walk_tup (xs := ps)) t.fields hl.symm (fun m => some (.int (m.2.depth : Nat))) (fun H s => Same.tup s (.inl (.inl ha))) (sz4 (by omega)) hD (fun i x m H' hx hm' s' => ?_) (fun H1 s2 d1 => ?_)
    · obtain ⟨p, q', g1, g2, g3⟩ := hf.get hm'
      rw [g1] at hx
      cases hx
      intro Q1 Q0 h1 h0
      have dl := Tr.depth_lt (List.mem_of_getElem? hm')
      have sl := Tr.size_mem (List.mem_of_getElem? hm')
      exact ⟨rfl, _, rfl, p, _, 1, q', rfl, rfl, .inl (.inl (s' _ _ g2)), rfl, m.2, q', rfl, g3.same s', by omega, by omega, (Tr.short_mem hsh (List.mem_of_getElem? hm')).2, fun H2 s4 => h1 _ _ rfl s4⟩
    have el : (t.fields.filterMap fun m => some (V.int (m.2.depth : Nat))) = (t.fields.map fun m => ((m.2.depth : Nat) : Int)).map V.int := by
      rw [List.filterMap_eq_map', List.map_map]
      rfl
    rw [el] at d1
    refine ⟨_, rfl, Nat.zero_le _, fun e ne => ?_⟩
    have s3 := same_upd (o := .tup []) ne
    refine ⟨a, e, ps, rfl, rfl, .inl (.inl (s3 _ _ (s2 _ _ ha))), .inl (.inl upd_same), _, rfl, ?_⟩
    refine iteE hf.nil_iff (fun e0 => ?_) (fun e0 => ?_)
    · have := q _ (s2.trans s3)
      rw [Tr.nil_of e0] at this
      exact this
    have nl : 0 < t.fields.length := by
      cases t with
      | nil => cases e0
      | cons _ _ _ => exact Nat.succ_pos _
    refine ⟨_, rfl, D, _, rfl, .inl (.inl (s3 _ _ d1)), (by rw [List.length_map]; exact nl), fun m h1 h2 => ⟨_, _, rfl, rfl, ?_⟩⟩
    have qq : Q (.int ((t.depth : Nat) : Int)) _ := q _ (s2.trans s3)
    rw [← depth_int e0 h1 h2] at qq
    exact qq
theorem sc_law_text : FnScope ["_law_tree_here", "_law_fields", "_law_word_here", "_law_field"] ["_law_tree_here"] (defScope s_law_text) := ⟨rfl, rfl, rfl, by decide +kernel, rfl, by decide +kernel, by decide +kernel⟩
theorem ok_law_text {f : Addr} {fd : FuncData} (F : FunD K "_law_text" "_law_text" (defArgs s_law_text) (defBody s_law_text) (defScope s_law_text) [] [] f fd) (T : Tx K mg) (hm : mg "_law_text" = some (.ref f)) (hb : Binds K fd ["_law_tree_here"] []) : ∀ d, FnOk P w K mg base CX0 d f fd ["_law_tree_here"] (sp_tree d fun t => .str t.text)
  | 0 => no_tree
  | d + 1 => by
    have c_law_text : Cal P w K mg base d "_law_text" ["_law_tree_here"] (sp_tree d fun t => .str t.text) := ⟨f, fd, ok_law_text F T hm hb d, hm, F.kp, hb⟩
    refine F.ok sc_law_text (fun vs H Q E h => h.len1) (fun cdv A outer s H vs Q E hr h => ?_)
    obtain ⟨t, v, rfl, ht, hd, hsz, hsh, q⟩ := h
    refine ⟨_, PSs.nox (pss_cons (ps_set (i := 1) sc_law_text.nd rfl (by first | exact Or.inl rfl | exact Or.inr rfl) (pe_join pe_str (pe_lc (own := [("_law_word_here", 2), ("_law_field", 3)]) (by rfl) sc_law_text.nd (pi_tupK K (pv 0)) (blkOk_by (N := ["_law_tree_here", "_law_fields", "_law_word_here", "_law_field"]) (sc := (defScope s_law_text)) (by decide +kernel)) (fun _ _ _ _ _ => (pg_tupK K (n := 2) rfl (pgs_cons (pg_name (i := 2) sc_law_text.nd rfl (by first | exact Or.inl rfl | exact Or.inr rfl)) (pgs_cons (pg_name (i := 3) sc_law_text.nd rfl (by first | exact Or.inl rfl | exact Or.inr rfl)) pgs_nil)))) (fun _ _ _ _ _ => pts_nil) (fun _ _ _ _ _ => (pe_op op_add_str (pe_op op_add_str (pv 2) pe_str) (pe_cal c_law_text (hr.mono (by omega)) (by rfl) (pa_cons (pv 3) pa_nil)))))))
      (pss_one (ps_ret (pe_ifExp (pt_cmpR (op_eq_nilK K hr.units0) (pv 0) (pe_tup pa_nil) (nomark _)) pe_str (pe_op op_add_str (pe_op op_add_str pe_str (pv 1)) pe_str))))), ?_⟩
    obtain ⟨a, ps, rfl, ha, hf⟩ := ht
    have hl := hf.len
    have hfl := t.fields_len
    refine ⟨⟨_, rfl⟩, _, rfl, a, rfl, ⟨_, .inl (.inl ha)⟩, fun D hD => ?_⟩
    refine lcM (walk_tup (xs := ps)) t.fields hl.symm (fun m => some (.str (m.1 ++ ": " ++ m.2.text))) (fun H s => Same.tup s (.inl (.inl ha))) (sz4 (by omega)) hD (fun i x m H' hx hm' s' => ?_) (fun H1 s2 d1 => ?_)
    · obtain ⟨p, q', g1, g2, g3⟩ := hf.get hm'
      rw [g1] at hx
      cases hx
      intro Q1 Q0 h1 h0
      have dl := Tr.depth_lt (List.mem_of_getElem? hm')
      have sl := Tr.size_mem (List.mem_of_getElem? hm')
      obtain ⟨w8, sh⟩ := Tr.short_mem hsh (List.mem_of_getElem? hm')
      have tl := (Tr.join_le sh).2
      have e2 : ((": " : Str)).length = 2 := by decide +kernel
      have l2 : (m.1 ++ ": ").length ≤ 10 := by rw [len_app, e2]; omega
      exact ⟨p, _, rfl, .inl (.inl (s' _ _ g2)), rfl, _, _, rfl, _, _, rfl, rfl, rfl, _, rfl, m.1, ": ", rfl, rfl, sz5 (by omega), _, rfl, m.2, _, rfl, g3.same s', by omega, by omega, sh, fun H2 s4 => ⟨_, _, rfl, rfl, sz5 (by omega), h1 _ _ rfl s4⟩⟩
    have el : (t.fields.filterMap fun m => some (V.str (m.1 ++ ": " ++ m.2.text))) = t.pieces.map V.str := by
      rw [List.filterMap_eq_map', Tr.pieces_eq, List.map_map]
      rfl
    rw [el] at d1
    have jl := (Tr.join_le hsh).1
    have e3 : ((", " : Str)).length = 2 := by decide +kernel
    refine ⟨", ", D, t.pieces, rfl, rfl, .inl (.inl (.inl d1)), ?_, ?_⟩
    · rw [e3]
      omega
    rw [TL.join_eq]
    have tl := (Tr.join_le hsh).2
    refine ⟨_, rfl, Nat.zero_le _, fun e ne => ?_⟩
    have s3 := same_upd (o := .tup []) ne
    refine ⟨a, e, ps, rfl, rfl, .inl (.inl (s3 _ _ (s2 _ _ ha))), .inl (.inl upd_same), _, rfl, ?_⟩
    refine iteE hf.nil_iff (fun e0 => ?_) (fun e0 => ?_)
    · have := q _ (s2.trans s3)
      rw [Tr.nil_of e0] at this
      exact this
    have et := text_eq e0
    rw [et, len_app, len_app] at tl
    have e4 : (("{" : Str)).length = 1 := by decide +kernel
    have e5 : (("}" : Str)).length = 1 := by decide +kernel
    refine ⟨_, rfl, "{", _, rfl, rfl, sz5 (by omega), _, _, rfl, rfl, sz5 (by rw [len_app]; omega), ?_⟩
    have qq : Q (.str t.text) _ := q _ (s2.trans s3)
    rw [et] at qq
    exact qq
end
end Lx

namespace Lx
open PySem PySem.Spec PyProof.Rows L2 Ub Ur Ug Ue Up
section
variable {P : Program} {w : World} {K : PySem.W.Frag} {mg : Str → Option Value} {base : Heap}
theorem sc_law_tree : FnScope ["_law_state", "_law_floors", "_law_room", "_law_pool", "_law_fields", "_law_turn", "_law_fits", "_law_way", "_law_field", "_law_tree_here", "_law_word_here"] ["_law_state", "_law_floors", "_law_room", "_law_pool"] (defScope s_law_tree) := ⟨rfl, rfl, rfl, by decide +kernel, rfl, by decide +kernel, by decide +kernel⟩
theorem ok_law_tree {f : Addr} {fd : FuncData} (F : FunD K "_law_tree" "_law_tree" (defArgs s_law_tree) (defBody s_law_tree) (defScope s_law_tree) [] [] f fd) (T : Tx K mg) (hm : mg "_law_tree" = some (.ref f)) (hb : Binds K fd ["_law_state", "_law_floors", "_law_room", "_law_pool"] []) (c_law_draw : Cal P w K mg base 1 "_law_draw" ["_law_state", "_law_many"] sp_draw) (c_law_of : Cal P w K mg base 2 "_law_of" ["_law_state", "_law_some"] sp_of) (c_law_word : Cal P w K mg base 2 "_law_word" ["_law_state", "_law_taken"] sp_word)
    (c_law_records : Cal P w K mg base 4 "_law_records" ["_law_tree_here"] (sp_tree 4 fun t => .int (t.recs : Nat))) (c_law_plains : Cal P w K mg base 4 "_law_plains" ["_law_tree_here"] (sp_tree 4 fun t => .int (t.plains : Nat))) (c_law_depth : Cal P w K mg base 4 "_law_depth" ["_law_tree_here"] (sp_tree 4 fun t => .int (t.depth : Nat))) :
    ∀ d, FnOk P w K mg base CX0 (d + 4) f fd ["_law_state", "_law_floors", "_law_room", "_law_pool"] (sp_ltree d)
  | 0 => no_ltree
  | d + 1 => by
    have c_law_tree : Cal P w K mg base (d + 4) "_law_tree" ["_law_state", "_law_floors", "_law_room", "_law_pool"] (sp_ltree d) := ⟨f, fd, ok_law_tree F T hm hb c_law_draw c_law_of c_law_word c_law_records c_law_plains c_law_depth d, hm, F.kp, hb⟩
    refine F.ok sc_law_tree (fun vs H Q E h => ?_) (fun cdv A outer s H vs Q E hr h => ?_)
    · obtain ⟨_, _, _, _, _, _, _, _, _, rfl, _⟩ := h
      rfl
    obtain ⟨st, g, l, rm, pl, f, r0, p0, po0, rfl, hfd, hf1, hf3, hr1, hp1, hp5, hpo, L0, q⟩ := h
    refine ⟨_, PSs.nox (pss_cons (ps_augS (pv 2) pe_int (get_listK K) pe_int ip_sub set_list)
      (pss_cons (ps_set (i := 4) sc_law_tree.nd rfl (by first | exact Or.inl rfl | exact Or.inr rfl) (pe_lst pa_nil))
      (pss_cons (ps_for PassesOwn.never rfl (pi_range1 (by rfl) T.range (pa_cons (pe_op op_add pe_int (pe_cal c_law_draw (hr.mono (by omega)) (by rfl) (pa_cons (pv 0) (pa_cons pe_int pa_nil)))) pa_nil)) (pg_name (i := 5) sc_law_tree.nd rfl (by first | exact Or.inl rfl | exact Or.inr rfl))
        (pss_cons (ps_setLc (i := 6) (own := [("_law_tree_here", 9)]) (by rfl) sc_law_tree.nd rfl rfl (sw_true rfl rfl rfl (by decide +kernel)) (pi_listK K (pv 3)) (blkOk_by (N := ["_law_state", "_law_floors", "_law_room", "_law_pool", "_law_fields", "_law_turn", "_law_fits", "_law_way", "_law_field", "_law_tree_here", "_law_word_here"]) (sc := (defScope s_law_tree)) (by decide +kernel)) (fun _ _ _ _ _ => (pg_name (i := 9) sc_law_tree.nd rfl (by first | exact Or.inl rfl | exact Or.inr rfl))) (fun _ _ _ _ _ => pts_one (pt_cmpR op_lt (pe_cal c_law_depth (hr.mono (by omega)) (by rfl) (pa_cons (pv 9) pa_nil)) (pv 1) (nomark _))) (fun _ _ _ _ _ => (pv 9)))
          (pss_cons (ps_setLc (i := 6) (own := [("_law_tree_here", 9)]) (by rfl) sc_law_tree.nd rfl rfl (sw_true rfl rfl rfl (by decide +kernel)) (pi_listK K (pv 6)) (blkOk_by (N := ["_law_state", "_law_floors", "_law_room", "_law_pool", "_law_fields", "_law_turn", "_law_fits", "_law_way", "_law_field", "_law_tree_here", "_law_word_here"]) (sc := (defScope s_law_tree)) (by decide +kernel)) (fun _ _ _ _ _ => (pg_name (i := 9) sc_law_tree.nd rfl (by first | exact Or.inl rfl | exact Or.inr rfl))) (fun _ _ _ _ _ => pts_one (pt_cmpR op_le (pe_cal c_law_records (hr.mono (by omega)) (by rfl) (pa_cons (pv 9) pa_nil)) (pe_ix (ix_listK K) (pv 2) pe_int (fun _ _ => rfl)) (nomark _))) (fun _ _ _ _ _ => (pv 9)))
          (pss_cons (ps_setLc (i := 6) (own := [("_law_tree_here", 9)]) (by rfl) sc_law_tree.nd rfl rfl (sw_true rfl rfl rfl (by decide +kernel)) (pi_listK K (pv 6)) (blkOk_by (N := ["_law_state", "_law_floors", "_law_room", "_law_pool", "_law_fields", "_law_turn", "_law_fits", "_law_way", "_law_field", "_law_tree_here", "_law_word_here"]) (sc := (defScope s_law_tree)) (by decide +kernel)) (fun _ _ _ _ _ => (pg_name (i := 9) sc_law_tree.nd rfl (by first | exact Or.inl rfl | exact Or.inr rfl))) (fun _ _ _ _ _ => pts_one (pt_cmpR op_le (pe_cal c_law_plains (hr.mono (by omega)) (by rfl) (pa_cons (pv 9) pa_nil)) (pe_ix (ix_listK K) (pv 2) pe_int (fun _ _ => rfl)) (nomark _))) (fun _ _ _ _ _ => (pv 9)))
          (pss_cons (ps_set (i := 7) sc_law_tree.nd rfl (by first | exact Or.inl rfl | exact Or.inr rfl) (pe_cal c_law_draw (hr.mono (by omega)) (by rfl) (pa_cons (pv 0) (pa_cons pe_int pa_nil))))
          (pss_cons (ps_set (i := 8) sc_law_tree.nd rfl (by first | exact Or.inl rfl | exact Or.inr rfl) (pe_tup pa_nil))
          (pss_cons (ps_if (PW.pt (pw_and (pt_cmpR op_gt (pv 7) pe_int (nomark _)) (pw_and1 (pt_truthK K (pv 6) (by intro _; rfl)))))
            (pss_cons (ps_set (i := 8) sc_law_tree.nd rfl (by first | exact Or.inl rfl | exact Or.inr rfl) (pe_cal c_law_of (hr.mono (by omega)) (by rfl) (pa_cons (pv 0) (pa_cons (pv 6) pa_nil))))
              (pss_cons (ps_augS (pv 2) pe_int (get_listK K) (pe_cal c_law_records (hr.mono (by omega)) (by rfl) (pa_cons (pv 8) pa_nil)) ip_sub set_list)
              (pss_one (ps_augS (pv 2) pe_int (get_listK K) (pe_cal c_law_plains (hr.mono (by omega)) (by rfl) (pa_cons (pv 8) pa_nil)) ip_sub set_list))))
            (pss_one (ps_if (PW.pt (pw_and (pt_cmpR op_gt (pv 7) pe_int (nomark _)) (pw_and (pt_cmpR op_gt (pv 1) pe_int (nomark _)) (pw_and (pt_cmpR op_gt (pe_ix (ix_listK K) (pv 2) pe_int (fun _ _ => rfl)) pe_int (nomark _)) (pw_and1 (pt_cmpR op_gt (pe_ix (ix_listK K) (pv 2) pe_int (fun _ _ => rfl)) pe_int (nomark _)))))))
                (pss_cons (ps_set (i := 8) sc_law_tree.nd rfl (by first | exact Or.inl rfl | exact Or.inr rfl) (pe_cal c_law_tree (hr.mono (by omega)) (by rfl) (pa_cons (pv 0) (pa_cons (pe_op op_sub (pv 1) pe_int) (pa_cons (pv 2) (pa_cons (pv 3) pa_nil))))))
                  (pss_one (ps_expr (pe_bmK K PySem.F.plainAttrs_list PySem.F.slot_list_append PySem.F.type_list_append mt_append (pv 3) (pa_cons (pv 8) pa_nil)))))
                (pss_one (ps_if (pt_cmpR op_gt (pe_ix (ix_listK K) (pv 2) pe_int (fun _ _ => rfl)) pe_int (nomark _))
                    (pss_one (ps_augS (pv 2) pe_int (get_listK K) pe_int ip_sub set_list))
                    (pss_one ps_break))))))
          (pss_one (ps_expr (pe_bmK K PySem.F.plainAttrs_list PySem.F.slot_list_append PySem.F.type_list_append mt_append (pv 4) (pa_cons (pe_tup (pa_cons (pe_cal c_law_word (hr.mono (by omega)) (by rfl) (pa_cons (pv 0) (pa_cons (pe_lc (own := [("_law_word_here", 10), ("_law_tree_here", 9)]) (by rfl) sc_law_tree.nd (pi_listK K (pv 4)) (blkOk_by (N := ["_law_state", "_law_floors", "_law_room", "_law_pool", "_law_fields", "_law_turn", "_law_fits", "_law_way", "_law_field", "_law_tree_here", "_law_word_here"]) (sc := (defScope s_law_tree)) (by decide +kernel)) (fun _ _ _ _ _ => (pg_tupK K (n := 2) rfl (pgs_cons (pg_name (i := 10) sc_law_tree.nd rfl (by first | exact Or.inl rfl | exact Or.inr rfl)) (pgs_cons (pg_name (i := 9) sc_law_tree.nd rfl (by first | exact Or.inl rfl | exact Or.inr rfl)) pgs_nil)))) (fun _ _ _ _ _ => pts_nil) (fun _ _ _ _ _ => (pv 10))) pa_nil))) (pa_cons (pv 8) pa_nil))) pa_nil)))))))))))
      (pss_one (ps_ret (pe_callTy (call_tuple_ofK K) (by rfl) T.tuple (by decide +kernel) (pa_cons (pv 4) pa_nil))))))), ?_⟩
    -- room[0] -= 1
    refine ⟨.ref rm, rfl, rm, _, 0, .int r0, rfl, rfl, .inl (.inl L0.hr), by decide, rfl, _, 1, rfl, rfl, rm, _, 0, 0, rfl, rfl, L0.hr, rfl, ?_⟩
    refine absH fun H1 e1 => ?_
    have L1 : Lt H1 st g l rm pl (r0 - 1) p0 po0 := by
      have e : (r0 : Int) - 1 = ((r0 - 1 : Nat) : Int) := by omega
      rw [e1]
      show Lt (upd H rm (.lst [.int ((r0 : Int) - 1), .int p0])) _ _ _ _ _ _ _ _
      rw [e]
      exact L0.room
    have k1 : Kn [st, g, l, rm, pl] H H1 := by rw [e1]; exact Kn.upd (by simp)
    clear e1
    -- fields = []
    refine ⟨Nat.zero_le _, fun fl nfl => ?_⟩
    have s2 := same_upd (o := .lst []) nfl
    have Lb := L1.same s2
    -- range(1 + draw)
    refine ⟨_, rfl, st, g, l, 3, rfl, by decide, by decide, Lb.S, fun dn H3 d0 d1 S3 k3 => ?_⟩
    have nf := L1.fresh nfl
    have nfH : H fl = none := by
      cases e : H fl with
      | none => rfl
      | some o => rw [k1 _ _ e nf] at nfl; cases nfl
    simp only [List.mem_cons, List.not_mem_nil, or_false, not_or] at nf
    have hf3' := k3 _ _ (upd_same (H := H1) (a := fl) (o := .lst [])) nf.1 nf.2.1 nf.2.2.1
    obtain ⟨n, rfl⟩ : ∃ n : Nat, dn = (n : Int) := ⟨dn.toNat, by omega⟩
    refine ⟨_, _, rfl, rfl, _, rfl, by omega, by omega, ?_⟩
    have en : (1 + (n : Int)).toNat = 1 + n := by omega
    rw [en]
    have I0 : LtI H H3 st g l rm pl fl f r0 p0 po0.length (r0 - 1) p0 po0 [] [] := ⟨Lb.kp S3 k3, (k1.trans (Kn.of s2)).trans (Kn.kp k3 (by simp) (by simp) (by simp)), hf3', L1.fresh nfl, nfH, rfl, (fun m hm => nomatch hm), List.nodup_nil, by show r0 - 1 + 0 + 1 = r0; omega, rfl, by omega⟩
    have fin : ∀ (σ : L2.St) (HH : Hp) (r p : Nat) (po : List (V × Tr)) (fs : List (Str × Tr)) (ps : List V) (y : List (Option V)), σ = some (.ref st) :: some (.int f) :: some (.ref rm) :: some (.ref pl) :: some (.ref fl) :: y → fs ≠ [] → fs.length ≤ 3 → LtI H HH st g l rm pl fl f r0 p0 po0.length r p po fs ps → tRet (tCB (rTupQ K) (tCons (tVar 4) tNil)) { nx := fun _ H' => Q .non H', rt := Q } σ HH := by
      rintro σ HH r p po fs ps y rfl hne hle I
      refine ⟨_, rfl, fl, ps, rfl, .inl ⟨.inl (.inl I.hf), fun u nu => ?_⟩⟩
      obtain ⟨e1, e2, e3⟩ := recs_of hne
      have su := same_upd (o := .tup ps) nu
      have J := I.same su
      refine q (.ofFields fs) (.ref u) _ r p po J.lt J.kn ⟨u, ps, rfl, upd_same, J.at_⟩ ?_ e3 ?_ ?_ ?_
      · obtain ⟨f', rfl⟩ : ∃ f', f = f' + 1 := ⟨f - 1, by omega⟩
        exact .inr (fineF_of fs 3 [] hne hle (fun m hm => ⟨(I.ok m hm).1, (I.ok m hm).2, by simp⟩) I.nd)
      · have := I.sr; omega
      · have := I.sp; omega
      · have := I.sl; omega
    refine for_range (lo := 0) (n := 1 + n) (fun i σ HH => ∃ r p po fs ps y5 y6 y7 y8, fs.length = i ∧ σ = [some (.ref st), some (.int f), some (.ref rm), some (.ref pl), some (.ref fl), y5, y6, y7, y8, none, none] ∧ LtI H HH st g l rm pl fl f r0 p0 po0.length r p po fs ps) ?_ (fun i σ HH hi p => ?_) (fun σ HH p => ?_)
    · exact ⟨_, _, _, [], [], none, none, none, none, rfl, rfl, I0⟩
    rotate_left
    · obtain ⟨r, p, po, fs, ps, y5, y6, y7, y8, hl, rfl, I⟩ := p
      exact fin _ _ r p po fs ps _ rfl (fun e => by rw [e] at hl; have : ([] : List (Str × Tr)).length = 0 := rfl; omega) (by omega) I
    obtain ⟨r, p, po, fs, ps, y5, y6, y7, y8, hl, rfl, I⟩ := p
    have lpo : po.length ≤ 25 := by have := I.sl; omega
    have tr4 : ∀ m ∈ po, m.2.depth < 4 ∧ m.2.size ≤ 1000 ∧ m.2.short := fun m hm => by
      obtain ⟨a, b, c⟩ := fine_has 3 m.2 (I.lt.po m hm).2
      have := bnd3 (Nat.le_refl 3)
      exact ⟨by omega, by omega, c⟩
    -- fits, by depth
    refine ⟨_, rfl, pl, rfl, ⟨_, .inl (.inl I.lt.hp)⟩, fun D1 hD1 => ?_⟩
    refine lcM (walk_list (xs := po.map (·.1))) po (by simp) (fun m => if decide (m.2.depth < f) = true then some m.1 else none) (fun H s => s.seq (.inl (.inl I.lt.hp))) (sz5 (by rw [List.length_map]; omega)) hD1 (fun j x m H' hx hm s' => ?_) (fun H4 s4 d4 => ?_)
    · obtain rfl := at_map hx hm
      have mm := List.mem_of_getElem? hm
      obtain ⟨t1, t2, t3⟩ := tr4 m mm
      intro Q1 Q0 h1 h0
      refine ⟨rfl, _, rfl, m.2, m.1, rfl, (I.lt.po m mm).1.same s', t1, t2, t3, fun H5 s5 => ⟨_, rfl, _, _, rfl, rfl, _, rfl, ?_⟩⟩
      by_cases hd : m.2.depth < f
      · exact iteY (by omega) ⟨_, rfl, h1 _ _ (by rw [if_pos (decide_eq_true hd)]) s5⟩
      · exact iteN (by omega) (h0 _ (by rw [decide_eq_false hd]; rfl) s5)
    rw [fm_filter (fun m => decide (m.2.depth < f))] at d4
    generalize hpo1 : po.filter (fun m => decide (m.2.depth < f)) = po1 at d4
    have m1 : ∀ m ∈ po1, m ∈ po ∧ m.2.depth < f := fun m hm => by
      rw [← hpo1, List.mem_filter] at hm
      exact ⟨hm.1, of_decide_eq_true hm.2⟩
    have l1 : po1.length ≤ 25 := by rw [← hpo1]; exact Nat.le_trans (List.length_filter_le _ _) lpo
    clear hpo1
    have I4 := I.same s4
    -- by records
    refine ⟨_, rfl, D1, rfl, ⟨_, .inl (.inl d4)⟩, fun D2 hD2 => ?_⟩
    refine lcM (walk_list (xs := po1.map (·.1))) po1 (by simp) (fun m => if decide (m.2.recs ≤ r) = true then some m.1 else none) (fun H s => s.seq (.inl (.inl d4))) (sz5 (by rw [List.length_map]; omega)) hD2 (fun j x m H' hx hm s' => ?_) (fun H5 s5 d5 => ?_)
    · obtain rfl := at_map hx hm
      have mm := (m1 m (List.mem_of_getElem? hm)).1
      obtain ⟨t1, t2, t3⟩ := tr4 m mm
      intro Q1 Q0 h1 h0
      refine ⟨rfl, _, rfl, m.2, m.1, rfl, (I4.lt.po m mm).1.same s', t1, t2, t3, fun H5 s5 => ⟨.ref rm, rfl, rm, _, 0, .int r, rfl, rfl, .inl (.inl (s5 _ _ (s' _ _ I4.lt.hr))), rfl, _, _, rfl, rfl, _, rfl, ?_⟩⟩
      by_cases hd : m.2.recs ≤ r
      · exact iteY (by omega) ⟨_, rfl, h1 _ _ (by rw [if_pos (decide_eq_true hd)]) s5⟩
      · exact iteN (by omega) (h0 _ (by rw [decide_eq_false hd]; rfl) s5)
    rw [fm_filter (fun m => decide (m.2.recs ≤ r))] at d5
    generalize hpo2 : po1.filter (fun m => decide (m.2.recs ≤ r)) = po2 at d5
    have m2 : ∀ m ∈ po2, m ∈ po ∧ m.2.depth < f ∧ m.2.recs ≤ r := fun m hm => by
      rw [← hpo2, List.mem_filter] at hm
      exact ⟨(m1 m hm.1).1, (m1 m hm.1).2, of_decide_eq_true hm.2⟩
    have l2 : po2.length ≤ 25 := by rw [← hpo2]; exact Nat.le_trans (List.length_filter_le _ _) l1
    clear hpo2
    have I5 := I4.same s5
    -- by plain values
    refine ⟨_, rfl, D2, rfl, ⟨_, .inl (.inl d5)⟩, fun D3 hD3 => ?_⟩
    refine lcM (walk_list (xs := po2.map (·.1))) po2 (by simp) (fun m => if decide (m.2.plains ≤ p) = true then some m.1 else none) (fun H s => s.seq (.inl (.inl d5))) (sz5 (by rw [List.length_map]; omega)) hD3 (fun j x m H' hx hm s' => ?_) (fun H6 s6 d6 => ?_)
    · obtain rfl := at_map hx hm
      have mm := (m2 m (List.mem_of_getElem? hm)).1
      obtain ⟨t1, t2, t3⟩ := tr4 m mm
      intro Q1 Q0 h1 h0
      refine ⟨rfl, _, rfl, m.2, m.1, rfl, (I5.lt.po m mm).1.same s', t1, t2, t3, fun H5 s5 => ⟨.ref rm, rfl, rm, _, 1, .int p, rfl, rfl, .inl (.inl (s5 _ _ (s' _ _ I5.lt.hr))), rfl, _, _, rfl, rfl, _, rfl, ?_⟩⟩
      by_cases hd : m.2.plains ≤ p
      · exact iteY (by omega) ⟨_, rfl, h1 _ _ (by rw [if_pos (decide_eq_true hd)]) s5⟩
      · exact iteN (by omega) (h0 _ (by rw [decide_eq_false hd]; rfl) s5)
    rw [fm_filter (fun m => decide (m.2.plains ≤ p))] at d6
    generalize hpo3 : po2.filter (fun m => decide (m.2.plains ≤ p)) = po3 at d6
    have m3 : ∀ m ∈ po3, m ∈ po ∧ m.2.depth < f ∧ m.2.recs ≤ r ∧ m.2.plains ≤ p := fun m hm => by
      rw [← hpo3, List.mem_filter] at hm
      exact ⟨(m2 m hm.1).1, (m2 m hm.1).2.1, (m2 m hm.1).2.2, of_decide_eq_true hm.2⟩
    have l3 : po3.length ≤ 25 := by rw [← hpo3]; exact Nat.le_trans (List.length_filter_le _ _) l2
    clear hpo3
    have I6 := I5.same s6
    -- way
    refine ⟨_, rfl, st, g, l, 3, rfl, by decide, by decide, I6.lt.S, fun wy H7 w0 w1 S7 k7 => ?_⟩
    have I7 := I6.kp S7 k7
    obtain ⟨nD1, nD2, nD3⟩ := I5.lt.S.ne hD3
    have d7 := k7 _ _ d6 nD1 nD2 nD3
    -- field = ()
    refine ⟨Nat.zero_le _, fun u nu => ?_⟩
    have su := same_upd (o := .tup []) nu
    have eu : (upd H7 u (.tup [])) u = some (.tup []) := upd_same
    have d8 := su _ _ d7
    have I8 := I7.same su
    dsimp only [gName]
    generalize upd H7 u (.tup []) = H8 at *
    refine seqJ (fun σ' H' => ∃ t v r' p' po' y5 y6 y7, σ' = [some (.ref st), some (.int f), some (.ref rm), some (.ref pl), some (.ref fl), y5, y6, y7, some v, none, none] ∧ Lt H' st g l rm pl r' p' po' ∧ Kn [st, g, l, rm, pl] H8 H' ∧ TrAt H' t v ∧ Fine (f - 1) t ∧ r' + t.recs = r ∧ p' + t.plains = p ∧ po'.length + r' ≤ po.length + r) (fun D' hD' _ ebk _ => ?_) ?_
    · have tw : ∀ Q : Bool → Hp → Prop, Q (decide (0 < wy)) H8 → tTest (tOp (rI0 fun i j => V.bl (decide (j < i))) (tVar 7) (tC (V.int 0))) [some (V.ref st), some (V.int f), some (V.ref rm), some (V.ref pl), some (V.ref fl), some (V.int (0 + i)), some (V.ref D3), some (V.int wy), some (V.ref u), none, none] H8 Q := fun Q h => ⟨_, rfl, _, _, rfl, rfl, _, rfl, h⟩
      have hrm := I8.lt.hr
      by_cases hA : 0 < wy ∧ po3 ≠ []
      · refine ifT (fun Q h => tw _ (iteY hA.1 ⟨.ref D3, rfl, true, .inl ⟨_, .inl (.inl d8), ?_⟩, h⟩)) ?_
        · cases po3 with
          | nil => exact absurd rfl hA.2
          | cons _ _ => rfl
        obtain ⟨np1, np2, np3⟩ := I5.lt.S.ne hD3
        refine ⟨_, rfl, _, rfl, st, g, l, D3, _, rfl, d8, np1, np2, np3, fun e => hA.2 (List.map_eq_nil_iff.mp e), by rw [List.length_map]; omega, I8.lt.S, fun v H9 hv S9 k9 => ?_⟩
        obtain ⟨m, hm, rfl⟩ := List.mem_map.mp hv
        obtain ⟨mm, q1, q2, q3⟩ := m3 m hm
        obtain ⟨t1, t2, t3⟩ := tr4 m mm
        have I9 := I8.kp S9 k9
        have ht9 := (I9.lt.po m mm).1
        -- room[0] -= records(field)
        refine ⟨.ref rm, rfl, rm, _, 0, .int r, rfl, rfl, .inl (.inl I9.lt.hr), by decide, rfl, _, rfl, m.2, m.1, rfl, ht9, t1, t2, t3, fun H10 s10 => ?_⟩
        refine ⟨_, _, rfl, rfl, rm, _, 0, 0, rfl, rfl, s10 _ _ I9.lt.hr, rfl, ?_⟩
        have L10 := (I9.same s10).lt.room (r' := r - m.2.recs) (p' := p)
        have e10 : (r : Int) - (m.2.recs : Nat) = ((r - m.2.recs : Nat) : Int) := by omega
        have ht10 : TrAt (upd H10 rm (.lst [.int ((r - m.2.recs : Nat) : Int), .int p])) m.2 m.1 := (L10.po m mm).1
        refine absH fun H11 e11 => ?_
        have e11' : H11 = upd H10 rm (.lst [.int ((r - m.2.recs : Nat) : Int), .int p]) := by rw [e11, ← e10]; rfl
        have k11 : Kn [st, g, l, rm, pl] H8 H11 := by
          rw [e11']
          exact ((Kn.kp k9 (by simp) (by simp) (by simp)).trans (Kn.of s10)).trans (Kn.upd (by simp))
        rw [← e11'] at L10 ht10
        clear e11 e11'
        -- room[1] -= plains(field)
        refine ⟨.ref rm, rfl, rm, _, 1, .int p, rfl, rfl, .inl (.inl L10.hr), by decide, rfl, _, rfl, m.2, m.1, rfl, ht10, t1, t2, t3, fun H12 s12 => ?_⟩
        refine ⟨_, _, rfl, rfl, rm, _, 1, 1, rfl, rfl, s12 _ _ L10.hr, rfl, ?_⟩
        have L12 := (L10.same s12).room (r' := r - m.2.recs) (p' := p - m.2.plains)
        have e12 : (p : Int) - (m.2.plains : Nat) = ((p - m.2.plains : Nat) : Int) := by omega
        show Ends.nx D' _ (upd H12 rm (.lst [.int ((r - m.2.recs : Nat) : Int), .int ((p : Int) - ((m.2.plains : Nat) : Int))]))
        rw [e12]
        refine hD' _ _ ⟨m.2, m.1, r - m.2.recs, p - m.2.plains, po, _, _, _, rfl, ?_⟩
        exact ⟨L12, (k11.trans (Kn.of s12)).trans (Kn.upd (by simp)), (L12.po m mm).1, fine_down _ _ _ (I.lt.po m mm).2 (by omega), by omega, by omega, by omega⟩
      refine ifF (fun Q h => tw _ ?_) ?_
      · by_cases hw : 0 < wy
        · refine iteY hw ⟨.ref D3, rfl, false, .inl ⟨_, .inl (.inl d8), ?_⟩, h⟩
          cases po3 with
          | nil => rfl
          | cons _ _ => exact absurd ⟨hw, by simp⟩ hA
        · exact iteN hw h
      have g0 : ∀ Q : Bool → Hp → Prop, ∀ σ : L2.St, σ[2]? = some (some (.ref rm)) → Q (decide (0 < (r : Int))) H8 → tTest (tOp (rI0 fun i j => V.bl (decide (j < i))) (tOp (rIxL K) (tVar 2) (tC (V.int 0))) (tC (V.int 0))) σ H8 Q := fun Q σ e h => ⟨_, e, rm, _, 0, .int r, rfl, rfl, .inl (.inl hrm), rfl, _, _, rfl, rfl, _, rfl, h⟩
      have g1 : ∀ Q : Bool → Hp → Prop, ∀ σ : L2.St, σ[2]? = some (some (.ref rm)) → Q (decide (0 < (p : Int))) H8 → tTest (tOp (rI0 fun i j => V.bl (decide (j < i))) (tOp (rIxL K) (tVar 2) (tC (V.int 1))) (tC (V.int 0))) σ H8 Q := fun Q σ e h => ⟨_, e, rm, _, 1, .int p, rfl, rfl, .inl (.inl hrm), rfl, _, _, rfl, rfl, _, rfl, h⟩
      by_cases hB : 0 < wy ∧ 1 < f ∧ 0 < r ∧ 0 < p
      · refine ifT (fun Q h => tw _ (iteY hB.1 ⟨_, rfl, _, _, rfl, rfl, _, rfl, iteY (by omega) (g0 _ _ rfl (iteY (by omega) (g1 _ _ rfl ?_)))⟩)) ?_
        · rw [decide_eq_true (by omega)]
          exact h
        -- a tree below
        have ef : ((f : Nat) : Int) - 1 = ((f - 1 : Nat) : Int) := by omega
        refine ⟨_, rfl, _, rfl, _, _, rfl, rfl, _, rfl, _, rfl, st, g, l, rm, pl, f - 1, r, p, po, ?_, by omega, by omega, by omega, by omega, by omega, by have := I.sp; omega, by have := I.sl; omega, I8.lt, fun t v H9 r' p' po' L9 k9 ht hft hn er ep el => ?_⟩
        · show [V.ref st, V.int (((f : Nat) : Int) - 1), V.ref rm, V.ref pl] = _
          rw [ef]
        -- pool.append(field)
        refine ⟨_, rfl, .inl ⟨rfl, _, .inl (.inl L9.hp)⟩, _, rfl, pl, _, _, rfl, rfl, L9.hp, Nat.lt_of_lt_of_le (show (po'.map (·.1)).length < 1000 by rw [List.length_map]; have := I.sl; omega) (by decide), ?_⟩
        have hf3t : Fine 3 t := fine_up hft (by omega)
        have L10 := L9.pool ht hf3t
        refine hD' _ _ ⟨t, v, r', p', po' ++ [(v, t)], _, _, _, rfl, L10, k9.trans (Kn.upd (by simp)), (L10.po (v, t) (by simp)).1, hft, er, ep, ?_⟩
        rw [List.length_append]
        have h1 : 1 ≤ t.recs := by
          unfold Tr.recs
          rw [hn]
          show 1 ≤ 1 + _
          omega
        show po'.length + 1 + r' ≤ _
        omega
      refine ifF (fun Q h => tw _ ?_) ?_
      · by_cases hw : 0 < wy
        · refine iteY hw ⟨_, rfl, _, _, rfl, rfl, _, rfl, ?_⟩
          by_cases hf : 1 < f
          · refine iteY (by omega) (g0 _ _ rfl ?_)
            by_cases hr0 : 0 < r
            · refine iteY (by omega) (g1 _ _ rfl ?_)
              rw [decide_eq_false (by omega)]
              exact h
            · exact iteN (by omega) h
          · exact iteN (by omega) h
        · exact iteN hw h
      by_cases hC : 0 < p
      · refine ifT (fun Q h => g1 _ _ rfl (by rw [decide_eq_true (by omega)]; exact h)) ?_
        refine ⟨.ref rm, rfl, rm, _, 1, .int p, rfl, rfl, .inl (.inl hrm), by decide, rfl, _, _, rfl, rfl, rm, _, 1, 1, rfl, rfl, hrm, rfl, ?_⟩
        have L12 := I8.lt.room (r' := r) (p' := p - 1)
        have e12 : (p : Int) - 1 = ((p - 1 : Nat) : Int) := by omega
        show Ends.nx D' _ (upd H8 rm (.lst [.int (r : Nat), .int ((p : Int) - 1)]))
        rw [e12]
        refine hD' _ _ ⟨.nil, .ref u, r, p - 1, po, _, _, _, rfl, ?_⟩
        refine ⟨L12, Kn.upd (by simp), ⟨u, [], rfl, ?_, rfl⟩, fine_down _ 0 _ rfl (Nat.zero_le _), rfl, ?_, by omega⟩
        · rw [upd_ne (ne_of eu hrm (by intro z; cases z))]
          exact eu
        · show p - 1 + 1 = p
          omega
      · refine ifF (fun Q h => g1 _ _ rfl (by rw [decide_eq_false (by omega)]; exact h)) ?_
        show D'.bk _ _
        rw [ebk]
        have hsp := I8.sp
        refine fin _ _ r p po fs ps _ rfl (fun e => ?_) (by omega) I8
        rw [e] at hsp
        have : sumP [] = 0 := rfl
        omega
    rintro σ' H9 ⟨t, v, r', p', po', y5', y6', y7', rfl, L9, k9, ht, hft, er, ep, el⟩
    obtain ⟨k9', hf9, at9⟩ := I8.go L9 k9
    have nf := I.nf
    simp only [List.mem_cons, List.not_mem_nil, or_false, not_or] at nf
    have lps : ps.length = fs.length := FsAt.len2 at9
    -- the words
    refine ⟨_, rfl, .inl ⟨rfl, _, .inl (.inl hf9)⟩, _, rfl, _, rfl, fl, rfl, ⟨_, .inl (.inl hf9)⟩, fun D hD => ?_⟩
    refine lcM (walk_list (xs := ps)) fs lps.symm (fun p => some (.str p.1)) (fun H s => s.seq (.inl (.inl hf9))) (sz5 (by omega)) hD (fun j x m H' hx hm s' => ?_) (fun H10 s10 d10 => ?_)
    · obtain ⟨pa, qv, g1, g2, _⟩ := at9.get (m := m) (by rw [Tr.fields_of]; exact hm)
      rw [g1] at hx
      cases hx
      intro Q1 Q0 h1 h0
      exact ⟨pa, _, rfl, .inl (.inl (s' _ _ g2)), rfl, _, _, rfl, _, _, rfl, rfl, rfl, _, rfl, h1 _ _ rfl (Same.refl _)⟩
    have ew : (fs.filterMap fun p => some (V.str p.1)) = (fs.map (·.1)).map V.str := by
      rw [List.filterMap_eq_map', List.map_map]
      rfl
    rw [ew] at d10
    have L10 := L9.same s10
    obtain ⟨nd1, nd2, nd3⟩ := L9.S.ne hD
    refine ⟨st, g, l, D, fs.map (·.1), rfl, d10, nd1, nd2, nd3, by rw [List.length_map]; omega, L10.S, fun z H11 hz hnz S11 k11 => ?_⟩
    have L11 := L10.kp S11 k11
    have k11' : Kn [st, g, l, rm, pl] H9 H11 := (Kn.of s10).trans (Kn.kp k11 (by simp) (by simp) (by simp))
    have tu := tups_of k11' L9.lists
    have hf11 := k11' _ _ hf9 I.nf
    -- the pair
    refine ⟨_, rfl, (by show 2 ≤ sizeLine; decide), fun pp npp => ?_⟩
    have sp := same_upd (o := .tup [.str z, v]) npp
    have epp : (upd H11 pp (.tup [.str z, v])) pp = some (.tup [.str z, v]) := upd_same
    refine ⟨fl, ps, _, rfl, rfl, sp _ _ hf11, Nat.lt_of_lt_of_le (show ps.length < 1000 by omega) (by decide), ?_⟩
    have L12 := L11.same sp
    have at12 := (at9.tups tu).same sp
    have ht12 := (ht.tups tu).same sp
    have hf12 := sp _ _ hf11
    have k12 := (k9'.trans k11').trans (Kn.of sp)
    generalize upd H11 pp (.tup [.str z, v]) = H12 at *
    have tu2 : ∀ c xs, H12 c = some (.tup xs) → (upd H12 fl (.lst (ps ++ [.ref pp]))) c = some (.tup xs) := fun c xs e => by
      rw [upd_ne (ne_of e hf12 (by intro z; cases z))]
      exact e
    have at13 : FsAt (upd H12 fl (.lst (ps ++ [.ref pp]))) (.ofFields (fs ++ [(z, t)])) (ps ++ [.ref pp]) := FsAt.snoc (at12.tups tu2) (tu2 _ _ epp) (ht12.tups tu2)
    obtain ⟨es1, es2⟩ := sum_snoc fs (z, t)
    refine ⟨r', p', po', fs ++ [(z, t)], ps ++ [.ref pp], _, _, _, _, ?_, rfl, ⟨L12.mut hf12 I.nf, k12.mut I.nw, upd_same, I.nf, I.nw, at13, fun m hm => ?_, ?_, ?_, ?_, ?_⟩⟩
    · rw [List.length_append, hl]
      rfl
    · rcases List.mem_append.mp hm with hm | hm
      · exact I.ok m hm
      · have e : m = (z, t) := by simpa using hm
        rw [e]
        exact ⟨hft, hz⟩
    · rw [List.map_append, List.nodup_append]
      refine ⟨I.nd, by simp, fun a ha b hb e => hnz ?_⟩
      have : b = z := by simpa using hb
      rw [← this, ← e]
      exact ha
    · have := I.sr
      rw [es1]
      show r' + (sumR fs + t.recs) + 1 = r0
      omega
    · have := I.sp
      rw [es2]
      show p' + (sumP fs + t.plains) = p0
      omega
    · have := I.sl
      omega
end
end Lx

namespace Lx
open PySem PySem.Spec PyProof.Rows L2 Ub Ur Ug Ue Up
section
variable {P : Program} {w : World} {K : PySem.W.Frag} {mg : Str → Option Value} {base : Heap}
theorem sc_law_made_shape : FnScope ["_law_state", "_law_least", "_law_room", "_law_tree_here", "_law_inner", "_law_words", "_law_turn", "_law_fields"] ["_law_state", "_law_least"] (defScope s_law_made_shape) := ⟨rfl, rfl, rfl, by decide +kernel, rfl, by decide +kernel, by decide +kernel⟩
theorem ok_law_made_shape {f : Addr} {fd : FuncData} (F : FunD K "_law_made_shape" "_law_made_shape" (defArgs s_law_made_shape) (defBody s_law_made_shape) (defScope s_law_made_shape) [] [] f fd) (T : Tx K mg) (c_law_draw : Cal P w K mg base 1 "_law_draw" ["_law_state", "_law_many"] sp_draw) (c_law_word : Cal P w K mg base 2 "_law_word" ["_law_state", "_law_taken"] sp_word) (c_law_tree : Cal P w K mg base 8 "_law_tree" ["_law_state", "_law_floors", "_law_room", "_law_pool"] (sp_ltree 4)) : FnOk P w K mg base CX0 9 f fd ["_law_state", "_law_least"] sp_mshape := by
  refine F.ok sc_law_made_shape (fun vs H Q E h => ?_) (fun cdv A outer s H vs Q E hr h => ?_)
  · obtain ⟨_, _, _, _, rfl, _⟩ := h
    rfl
  obtain ⟨st, g, l, le, rfl, hle1, hle2, S, q⟩ := h
  refine ⟨_, PSs.nox (pss_cons (ps_if (pt_cmpR op_eq (pe_cal c_law_draw (hr.mono (by omega)) (by rfl) (pa_cons (pv 0) (pa_cons pe_int pa_nil))) pe_int (nomark _))
        (pss_cons (ps_set (i := 2) sc_law_made_shape.nd rfl (by first | exact Or.inl rfl | exact Or.inr rfl) (pe_lst (pa_cons (pe_op op_add pe_int (pe_cal c_law_draw (hr.mono (by omega)) (by rfl) (pa_cons (pv 0) (pa_cons pe_int pa_nil)))) (pa_cons (pe_op op_add (pv 1) (pe_cal c_law_draw (hr.mono (by omega)) (by rfl) (pa_cons (pv 0) (pa_cons (pe_op op_sub pe_int (pv 1)) pa_nil)))) pa_nil))))
          (pss_cons (ps_set (i := 3) sc_law_made_shape.nd rfl (by first | exact Or.inl rfl | exact Or.inr rfl) (pe_cal c_law_tree (hr.mono (by omega)) (by rfl) (pa_cons (pv 0) (pa_cons (pe_op op_add pe_int (pe_cal c_law_draw (hr.mono (by omega)) (by rfl) (pa_cons (pv 0) (pa_cons pe_int pa_nil)))) (pa_cons (pv 2) (pa_cons (pe_lst pa_nil) pa_nil))))))
          (pss_one (ps_if (pt_cmpR op_ge (pe_callB (call_len_seqK K) (by rfl) T.len (by decide +kernel) (pa_cons (pv 3) pa_nil)) (pv 1) (nomark _))
            (pss_one (ps_ret (pv 3)))
            pss_nil))))
        pss_nil)
      (pss_cons (ps_set (i := 2) sc_law_made_shape.nd rfl (by first | exact Or.inl rfl | exact Or.inr rfl) (pe_lst (pa_cons pe_int (pa_cons (pe_op op_add pe_int (pe_cal c_law_draw (hr.mono (by omega)) (by rfl) (pa_cons (pv 0) (pa_cons pe_int pa_nil)))) pa_nil))))
      (pss_cons (ps_set (i := 4) sc_law_made_shape.nd rfl (by first | exact Or.inl rfl | exact Or.inr rfl) (pe_cal c_law_tree (hr.mono (by omega)) (by rfl) (pa_cons (pv 0) (pa_cons (pe_op op_add pe_int (pe_cal c_law_draw (hr.mono (by omega)) (by rfl) (pa_cons (pv 0) (pa_cons pe_int pa_nil)))) (pa_cons (pv 2) (pa_cons (pe_lst pa_nil) pa_nil))))))
      (pss_cons (ps_set (i := 5) sc_law_made_shape.nd rfl (by first | exact Or.inl rfl | exact Or.inr rfl) (pe_lst pa_nil))
      (pss_cons (ps_for PassesOwn.never rfl (pi_range1 (by rfl) T.range (pa_cons pe_int pa_nil)) (pg_name (i := 6) sc_law_made_shape.nd rfl (by first | exact Or.inl rfl | exact Or.inr rfl))
        (pss_one (ps_expr (pe_bmK K PySem.F.plainAttrs_list PySem.F.slot_list_append PySem.F.type_list_append mt_append (pv 5) (pa_cons (pe_cal c_law_word (hr.mono (by omega)) (by rfl) (pa_cons (pv 0) (pa_cons (pv 5) pa_nil))) pa_nil)))))
      (pss_cons (ps_set (i := 7) sc_law_made_shape.nd rfl (by first | exact Or.inl rfl | exact Or.inr rfl) (pe_lst (pa_cons (pe_tup (pa_cons (pe_ix (ix_listK K) (pv 5) pe_int (fun _ _ => rfl)) (pa_cons (pv 4) pa_nil))) (pa_cons (pe_tup (pa_cons (pe_ix (ix_listK K) (pv 5) pe_int (fun _ _ => rfl)) (pa_cons (pv 4) pa_nil))) pa_nil))))
      (pss_cons (ps_if (pt_truthK K (pe_cal c_law_draw (hr.mono (by omega)) (by rfl) (pa_cons (pv 0) (pa_cons pe_int pa_nil))) (by intro _; rfl))
        (pss_one (ps_expr (pe_bmK K PySem.F.plainAttrs_list PySem.F.slot_list_insert PySem.F.type_list_insert mt_insert (pv 7) (pa_cons (pe_cal c_law_draw (hr.mono (by omega)) (by rfl) (pa_cons (pv 0) (pa_cons pe_int pa_nil))) (pa_cons (pe_tup (pa_cons (pe_ix (ix_listK K) (pv 5) pe_int (fun _ _ => rfl)) (pa_cons (pe_tup pa_nil) pa_nil))) pa_nil)))))
        pss_nil)
      (pss_one (ps_ret (pe_callTy (call_tuple_ofK K) (by rfl) T.tuple (by decide +kernel) (pa_cons (pv 7) pa_nil))))))))))), ?_⟩
  refine seqJ (fun σ' H' => ∃ y2 y3, σ' = [some (.ref st), some (.int le), y2, y3, none, none, none, none] ∧ StAt H' st g l ∧ Kp st g l H H') (fun D' hD' ert _ _ => ?_) ?_
  · refine ⟨_, rfl, st, g, l, 4, rfl, by decide, by decide, S, fun d H1 d0 d1 S1 k1 => ⟨rfl, _, rfl, ?_⟩⟩
    refine ite2 (fun _ => ?_) (fun _ => hD' _ _ ⟨_, _, rfl, S1, k1⟩)
    refine ⟨_, rfl, st, g, l, 5, rfl, by decide, by decide, S1, fun r Ha r0 r1 Sa ka => ⟨_, _, rfl, rfl, ?_⟩⟩
    refine ⟨_, rfl, _, rfl, _, rfl, _, _, rfl, rfl, st, g, l, _, rfl, by omega, by omega, Sa, fun p Hb p0 p1 Sb kb => ⟨_, _, rfl, rfl, ?_⟩⟩
    obtain ⟨r', rfl⟩ : ∃ r' : Nat, r = (r' : Int) := ⟨r.toNat, by omega⟩
    obtain ⟨p', rfl⟩ : ∃ p' : Nat, p = (p' : Int) := ⟨p.toNat, by omega⟩
    refine ⟨(by show 2 ≤ sizeLine; decide), fun rm nrm => ?_⟩
    have kab := (k1.trans ka).trans kb
    have srm := same_upd (o := .lst [.int (1 + (r' : Int)), .int ((le : Int) + (p' : Int))]) nrm
    have erm : (upd Hb rm (.lst [.int (1 + (r' : Int)), .int ((le : Int) + (p' : Int))])) rm = some (.lst [.int (1 + (r' : Int)), .int ((le : Int) + (p' : Int))]) := upd_same
    have Sc := Sb.same srm
    obtain ⟨rm1, rm2, rm3⟩ := Sb.ne nrm
    have nrmH : H rm = none := Sb.back kab nrm
    have kc := kab.trans (Kp.of srm)
    dsimp only [gName]
    generalize upd Hb rm (.lst [.int (1 + (r' : Int)), .int ((le : Int) + (p' : Int))]) = Hc at *
    refine ⟨_, rfl, _, rfl, st, g, l, 3, rfl, by decide, by decide, Sc, fun f Hd f0 f1 Sd kd => ⟨_, _, rfl, rfl, ?_⟩⟩
    obtain ⟨f', rfl⟩ : ∃ f' : Nat, f = (f' : Int) := ⟨f.toNat, by omega⟩
    have erm2 := kd _ _ erm rm1 rm2 rm3
    have kd' := kc.trans kd
    refine ⟨_, rfl, Nat.zero_le _, fun pl npl => ?_⟩
    have spl := same_upd (o := .lst []) npl
    obtain ⟨pl1, pl2, pl3⟩ := Sd.ne npl
    have nplH : H pl = none := Sd.back kd' npl
    refine ⟨st, g, l, rm, pl, 1 + f', 1 + r', le + p', [], ?_, by omega, by omega, by omega, by omega, by omega, by omega, ?_, ⟨Sd.same spl, ?_, upd_same, (fun m hm => nomatch hm), rm1, rm2, rm3, pl1, pl2, pl3, ne_of_none erm2 npl⟩, fun t v He r2 p2 po2 Le ke ht hft hn er ep el => ?_⟩
    · show [V.ref st, V.int (1 + (f' : Int)), V.ref rm, V.ref pl] = _
      rw [show 1 + (f' : Int) = ((1 + f' : Nat) : Int) by omega]
    · show 0 + (1 + r') ≤ 20
      omega
    · rw [show ((1 + r' : Nat) : Int) = 1 + (r' : Int) by omega, show ((le + p' : Nat) : Int) = (le : Int) + (p' : Int) by omega]
      exact spl _ _ erm2
    have ke' : Kp st g l H He := Kn.drop (kd'.trans (Kp.of spl)) ke nrmH nplH
    obtain ⟨a, ps, rfl, ha, hfs⟩ := id ht
    have lps := hfs.len
    refine ⟨_, rfl, a, _, rfl, .inr (.inl (.inl ha)), _, rfl, _, _, rfl, rfl, _, rfl, ?_⟩
    by_cases hl : le ≤ t.fields.length
    · refine iteY (by omega) ?_
      refine ⟨_, rfl, ?_⟩
      rw [ert]
      exact q t _ He ⟨fine_up hft (by omega), by omega, by omega⟩ hn hl ht Le.S ke'
    · refine iteN (by omega) ?_
      exact hD' _ _ ⟨_, _, rfl, Le.S, ke'⟩
  rintro σ' H1 ⟨y2, y3, rfl, S1, k1⟩
  -- the second way
  refine ⟨_, rfl, st, g, l, 2, rfl, by decide, by decide, S1, fun p Hb p0 p1 Sb kb => ⟨_, _, rfl, rfl, ?_⟩⟩
  obtain ⟨p', rfl⟩ : ∃ p' : Nat, p = (p' : Int) := ⟨p.toNat, by omega⟩
  refine ⟨(by show 2 ≤ sizeLine; decide), fun rm nrm => ?_⟩
  have kab := k1.trans kb
  have srm := same_upd (o := .lst [.int 2, .int (1 + (p' : Int))]) nrm
  have erm : (upd Hb rm (.lst [.int 2, .int (1 + (p' : Int))])) rm = some (.lst [.int 2, .int (1 + (p' : Int))]) := upd_same
  have Sc := Sb.same srm
  obtain ⟨rm1, rm2, rm3⟩ := Sb.ne nrm
  have nrmH : H rm = none := Sb.back kab nrm
  have kc := kab.trans (Kp.of srm)
  dsimp only [gName]
  generalize upd Hb rm (.lst [.int 2, .int (1 + (p' : Int))]) = Hc at *
  refine ⟨_, rfl, _, rfl, st, g, l, 2, rfl, by decide, by decide, Sc, fun f Hd f0 f1 Sd kd => ⟨_, _, rfl, rfl, ?_⟩⟩
  obtain ⟨f', rfl⟩ : ∃ f' : Nat, f = (f' : Int) := ⟨f.toNat, by omega⟩
  have erm2 := kd _ _ erm rm1 rm2 rm3
  have kd' := kc.trans kd
  refine ⟨_, rfl, Nat.zero_le _, fun pl npl => ?_⟩
  have spl := same_upd (o := .lst []) npl
  obtain ⟨pl1, pl2, pl3⟩ := Sd.ne npl
  have nplH : H pl = none := Sd.back kd' npl
  refine ⟨st, g, l, rm, pl, 1 + f', 2, 1 + p', [], ?_, by omega, by omega, by omega, by omega, by omega, by omega, by decide, ⟨Sd.same spl, ?_, upd_same, (fun m hm => nomatch hm), rm1, rm2, rm3, pl1, pl2, pl3, ne_of_none erm2 npl⟩, fun t v He r2 p2 po2 Le ke ht hft hn er ep el => ?_⟩
  · show [V.ref st, V.int (1 + (f' : Int)), V.ref rm, V.ref pl] = _
    rw [show 1 + (f' : Int) = ((1 + f' : Nat) : Int) by omega]
  · rw [show ((1 + p' : Nat) : Int) = 1 + (p' : Int) by omega]
    exact spl _ _ erm2
  have ke' : Kp st g l H He := Kn.drop (kd'.trans (Kp.of spl)) ke nrmH nplH
  have hf2 : Fine 2 t := fine_up hft (by omega)
  have Se := Le.S
  -- words
  refine ⟨Nat.zero_le _, fun W nW => ?_⟩
  have sW := same_upd (o := .lst []) nW
  have eW : (upd He W (.lst [])) W = some (.lst []) := upd_same
  obtain ⟨W1, W2, W3⟩ := Se.ne nW
  have nWH : H W = none := Se.back ke' nW
  have SW := Se.same sW
  have htW := ht.same sW
  have kW := ke'.trans (Kp.of sW)
  dsimp only [gName]
  generalize upd He W (.lst []) = HW at *
  refine ⟨3, rfl, by decide, by decide, ?_⟩
  refine for_range (lo := 0) (n := 3) (fun i σ HH => ∃ (ws : List Str) (y6 : Option V), σ = [some (.ref st), some (.int le), some (.ref rm), y3, some v, some (.ref W), y6, none] ∧ StAt HH st g l ∧ Kp st g l H HH ∧ TrAt HH t v ∧ HH W = some (.lst (ws.map V.str)) ∧ ws.length = i ∧ ws.Nodup ∧ ∀ w ∈ ws, isWord w = true) ?_ (fun i σ HH hi pp => ?_) (fun σ HH pp => ?_)
  · exact ⟨[], none, rfl, SW, kW, htW, eW, rfl, List.nodup_nil, fun _ h => nomatch h⟩
  · obtain ⟨ws, y6, rfl, Sx, kx, tx, hW, lw, nd, ok⟩ := pp
    refine ⟨_, rfl, .inl ⟨rfl, _, .inl (.inl hW)⟩, _, rfl, _, rfl, st, g, l, W, ws, rfl, hW, W1, W2, W3, by omega, Sx, fun z Hz hz hnz Sz kz => ?_⟩
    have hWz := kz _ _ hW W1 W2 W3
    have tz : TrAt Hz t v := tx.tups (fun c xs e => by
      obtain ⟨⟨_, _, _, _, h1, h2, h3, _⟩, _⟩ := Sx
      exact kz _ _ e (ne_of e h1 (by intro z; cases z)) (ne_of e h2 (by intro z; cases z)) (ne_of e h3 (by intro z; cases z)))
    refine ⟨W, _, _, rfl, rfl, hWz, Nat.lt_of_lt_of_le (show (ws.map V.str).length < 1000 by rw [List.length_map]; omega) (by decide), ?_⟩
    refine ⟨ws ++ [z], _, rfl, Sz.upd W1 W2 W3, fun b o e b1 b2 b3 => ?_, tz.tups (fun c xs e => ?_), ?_, by rw [List.length_append, lw]; rfl, ?_, fun w hw => ?_⟩
    · rw [upd_ne (ne_of_none e nWH)]
      exact (kx.trans kz) b o e b1 b2 b3
    · rw [upd_ne (ne_of e hWz (by intro z; cases z))]
      exact e
    · rw [upd_same, List.map_append]
      rfl
    · rw [List.nodup_append]
      refine ⟨nd, by simp, fun a ha b hb e => hnz ?_⟩
      have : b = z := by simpa using hb
      rw [← this, ← e]
      exact ha
    · rcases List.mem_append.mp hw with hw | hw
      · exact ok w hw
      · have e : w = z := by simpa using hw
        rw [e]; exact hz
  obtain ⟨ws, y6, rfl, Sx, kx, tx, hW, lw, nd, ok⟩ := pp
  obtain ⟨w0, w1, w2, rfl⟩ : ∃ w0 w1 w2, ws = [w0, w1, w2] := by
    match ws, lw with
    | [a, b, c], _ => exact ⟨a, b, c, rfl⟩
  obtain ⟨a, ps, rfl, ha, hfs⟩ := id tx
  -- the two pairs
  refine ⟨_, rfl, W, _, 0, .str w0, rfl, rfl, .inl (.inl hW), at0, _, rfl, (by show 2 ≤ sizeLine; decide), fun q0 nq0 => ?_⟩
  have s0 := same_upd (o := .tup [.str w0, .ref a]) nq0
  refine ⟨_, rfl, W, _, 1, .str w1, rfl, rfl, .inl (.inl (s0 _ _ hW)), rfl, _, rfl, (by show 2 ≤ sizeLine; decide), fun q1 nq1 => ?_⟩
  have s1 := same_upd (o := .tup [.str w1, .ref a]) nq1
  refine ⟨(by show 2 ≤ sizeLine; decide), fun fl nfl => ?_⟩
  have s2 := same_upd (o := .lst [.ref q0, .ref q1]) nfl
  have eq0 := s2 _ _ (s1 _ _ (upd_same (H := HH) (a := q0) (o := .tup [.str w0, .ref a])))
  have eq1 := s2 _ _ (upd_same (H := upd HH q0 (.tup [.str w0, .ref a])) (a := q1) (o := .tup [.str w1, .ref a]))
  have efl : (upd (upd (upd HH q0 (.tup [.str w0, .ref a])) q1 (.tup [.str w1, .ref a])) fl (.lst [.ref q0, .ref q1])) fl = some (.lst [.ref q0, .ref q1]) := upd_same
  have s02 := (s0.trans s1).trans s2
  have nflH : H fl = none := by
    have z := Sx.same (s0.trans s1)
    exact z.back (kx.trans (Kp.of (s0.trans s1))) nfl
  obtain ⟨fl1, fl2, fl3⟩ := (Sx.same (s0.trans s1)).ne nfl
  dsimp only [gName]
  generalize upd (upd (upd HH q0 (.tup [.str w0, .ref a])) q1 (.tup [.str w1, .ref a])) fl (.lst [.ref q0, .ref q1]) = H3 at *
  have S3 := Sx.same s02
  have k3 := kx.trans (Kp.of s02)
  have t3 := tx.same s02
  have hW3 := s02 _ _ hW
  -- the end
  have hnd : w0 ≠ w1 ∧ w0 ≠ w2 ∧ w1 ≠ w2 := by
    simp only [List.nodup_cons, List.mem_cons, List.not_mem_nil, or_false, not_or] at nd
    exact ⟨nd.1.1, nd.1.2, nd.2.1⟩
  have fin : ∀ (fs : List (Str × Tr)) (qs : List V) (HH : Hp), fs ≠ [] → fs.length ≤ 3 → 2 ≤ fs.length → (∀ m ∈ fs, Fine 2 m.2 ∧ isWord m.1 = true) → (fs.map (·.1)).Nodup → 1 + sumR fs ≤ 5 → sumP fs ≤ 5 → FsAt HH (.ofFields fs) qs → HH fl = some (.lst qs) → StAt HH st g l → Kp st g l H HH → ∀ σ : L2.St, σ[7]? = some (some (.ref fl)) → tRet (tCB (rTupQ K) (tCons (tVar 7) tNil)) { nx := fun _ H' => Q .non H', rt := Q } σ HH := by
    intro fs qs HH hne hl3 hl2 hok hnd hr5 hp5 hat hfl hS hk σ hσ
    obtain ⟨e1, e2, e3⟩ := recs_of hne
    refine ⟨_, hσ, fl, qs, rfl, .inl ⟨.inl (.inl hfl), fun u nu => ?_⟩⟩
    have su := same_upd (o := .tup qs) nu
    exact q (.ofFields fs) (.ref u) _ ⟨.inr (fineF_of fs 3 [] hne hl3 (fun m hm => ⟨(hok m hm).1, (hok m hm).2, by simp⟩) hnd), by omega, by omega⟩ e3 (by rw [Tr.fields_of]; omega) ⟨u, qs, rfl, upd_same, hat.same su⟩ (hS.same su) (hk.trans (Kp.of su))
  have i0 : isWord w0 = true := ok w0 (by simp)
  have i1 : isWord w1 = true := ok w1 (by simp)
  have i2 : isWord w2 = true := ok w2 (by simp)
  refine ⟨_, rfl, st, g, l, 2, rfl, by decide, by decide, S3, fun d H4 d0 d1 S4 k4 => ⟨_, rfl, ?_⟩⟩
  have tu4 : ∀ c xs, H3 c = some (.tup xs) → H4 c = some (.tup xs) := fun c xs e => by
    obtain ⟨⟨_, _, _, _, h1, h2, h3, _⟩, _⟩ := S3
    exact k4 _ _ e (ne_of e h1 (by intro z; cases z)) (ne_of e h2 (by intro z; cases z)) (ne_of e h3 (by intro z; cases z))
  have t4 := t3.tups tu4
  have eq04 := tu4 _ _ eq0
  have eq14 := tu4 _ _ eq1
  have efl4 := k4 _ _ efl fl1 fl2 fl3
  have hW4 := k4 _ _ hW3 W1 W2 W3
  have k04 := k3.trans k4
  refine iteE rfl (fun _ => ?_) (fun _ => ?_)
  rotate_left
  · refine fin [(w0, t), (w1, t)] [.ref q0, .ref q1] H4 (by simp) (by simp) (by simp) (fun m hm => ?_) ?_ ?_ ?_ ⟨q0, _, _, rfl, eq04, t4, q1, _, _, rfl, eq14, t4, rfl⟩ efl4 S4 k04 _ rfl
    · simp only [List.mem_cons, List.not_mem_nil, or_false] at hm
      rcases hm with rfl | rfl
      · exact ⟨hf2, i0⟩
      · exact ⟨hf2, i1⟩
    · simp [hnd.1]
    · show 1 + (t.recs + (t.recs + 0)) ≤ 5
      omega
    · show t.plains + (t.plains + 0) ≤ 5
      omega
  -- insert
  refine ⟨_, rfl, .inl ⟨rfl, _, .inl (.inl efl4)⟩, ?_⟩
  refine ⟨_, rfl, st, g, l, 3, rfl, by decide, by decide, S4, fun at_ H5 a0 a1 S5 k5 => ?_⟩
  have tu5 : ∀ c xs, H4 c = some (.tup xs) → H5 c = some (.tup xs) := fun c xs e => by
    obtain ⟨⟨_, _, _, _, h1, h2, h3, _⟩, _⟩ := S4
    exact k5 _ _ e (ne_of e h1 (by intro z; cases z)) (ne_of e h2 (by intro z; cases z)) (ne_of e h3 (by intro z; cases z))
  have efl5 := k5 _ _ efl4 fl1 fl2 fl3
  have hW5 := k5 _ _ hW4 W1 W2 W3
  refine ⟨_, rfl, W, _, 2, .str w2, rfl, rfl, .inl (.inl hW5), rfl, Nat.zero_le _, fun u nu => ?_⟩
  have su := same_upd (o := .tup []) nu
  refine ⟨(by show 2 ≤ sizeLine; decide), fun q2 nq2 => ?_⟩
  have sq2 := same_upd (o := .tup [.str w2, .ref u]) nq2
  have s57 := su.trans sq2
  have eu := sq2 _ _ (upd_same (H := H5) (a := u) (o := .tup []))
  have eq2 : (upd (upd H5 u (.tup [])) q2 (.tup [.str w2, .ref u])) q2 = some (.tup [.str w2, .ref u]) := upd_same
  have efl7 := s57 _ _ efl5
  have S7 := S5.same s57
  have k7 := (k04.trans k5).trans (Kp.of s57)
  have tu7 : ∀ c xs, H4 c = some (.tup xs) → (upd (upd H5 u (.tup [])) q2 (.tup [.str w2, .ref u])) c = some (.tup xs) := fun c xs e => s57 _ _ (tu5 _ _ e)
  generalize upd (upd H5 u (.tup [])) q2 (.tup [.str w2, .ref u]) = H7 at *
  obtain ⟨n, rfl⟩ : ∃ n : Nat, at_ = (n : Int) := ⟨at_.toNat, by omega⟩
  refine ⟨fl, _, _, _, rfl, rfl, efl7, (by show 2 < sizeLine; decide), by omega, by omega, ?_⟩
  have tu8 : ∀ (qs : List V) c xs, H4 c = some (.tup xs) → (upd H7 fl (.lst qs)) c = some (.tup xs) := fun qs c xs e => by
    rw [upd_ne (ne_of (tu7 _ _ e) efl7 (by intro z; cases z))]
    exact tu7 _ _ e
  have eu8 : ∀ qs : List V, (upd H7 fl (.lst qs)) u = some (.tup []) := fun qs => by
    rw [upd_ne (ne_of eu efl7 (by intro z; cases z))]
    exact eu
  have eq28 : ∀ qs : List V, (upd H7 fl (.lst qs)) q2 = some (.tup [.str w2, .ref u]) := fun qs => by
    rw [upd_ne (ne_of eq2 efl7 (by intro z; cases z))]
    exact eq2
  have k8 : ∀ qs : List V, Kp st g l H (upd H7 fl (.lst qs)) := fun qs b o e b1 b2 b3 => by
    rw [upd_ne (ne_of_none e nflH)]
    exact k7 b o e b1 b2 b3
  have hn3 : n = 0 ∨ n = 1 ∨ n = 2 := by omega
  have okm : ∀ m : Str × Tr, (m = (w0, t) ∨ m = (w1, t) ∨ m = (w2, .nil)) → Fine 2 m.2 ∧ isWord m.1 = true := fun m hm => by
    rcases hm with rfl | rfl | rfl
    · exact ⟨hf2, i0⟩
    · exact ⟨hf2, i1⟩
    · exact ⟨.inl rfl, i2⟩
  obtain ⟨n01, n02, n12⟩ := hnd
  rcases hn3 with rfl | rfl | rfl
  · refine fin [(w2, .nil), (w0, t), (w1, t)] [.ref q2, .ref q0, .ref q1] _ (by simp) (by simp) (by simp) (fun m hm => okm m ?_) ?_ ?_ ?_ ⟨q2, _, _, rfl, eq28 _, ⟨u, [], rfl, eu8 _, rfl⟩, q0, _, _, rfl, tu8 _ _ _ eq04, t4.tups (tu8 _), q1, _, _, rfl, tu8 _ _ _ eq14, t4.tups (tu8 _), rfl⟩ upd_same (S7.upd fl1 fl2 fl3) (k8 _) _ rfl
    · simp only [List.mem_cons, List.not_mem_nil, or_false] at hm
      rcases hm with h | h | h
      · exact .inr (.inr h)
      · exact .inl h
      · exact .inr (.inl h)
    · simp [n01, Ne.symm n02, Ne.symm n12]
    · show 1 + (0 + (t.recs + (t.recs + 0))) ≤ 5
      omega
    · show 1 + (t.plains + (t.plains + 0)) ≤ 5
      omega
  · refine fin [(w0, t), (w2, .nil), (w1, t)] [.ref q0, .ref q2, .ref q1] _ (by simp) (by simp) (by simp) (fun m hm => okm m ?_) ?_ ?_ ?_ ⟨q0, _, _, rfl, tu8 _ _ _ eq04, t4.tups (tu8 _), q2, _, _, rfl, eq28 _, ⟨u, [], rfl, eu8 _, rfl⟩, q1, _, _, rfl, tu8 _ _ _ eq14, t4.tups (tu8 _), rfl⟩ upd_same (S7.upd fl1 fl2 fl3) (k8 _) _ rfl
    · simp only [List.mem_cons, List.not_mem_nil, or_false] at hm
      rcases hm with h | h | h
      · exact .inl h
      · exact .inr (.inr h)
      · exact .inr (.inl h)
    · simp [n01, n02, Ne.symm n12]
    · show 1 + (t.recs + (0 + (t.recs + 0))) ≤ 5
      omega
    · show t.plains + (1 + (t.plains + 0)) ≤ 5
      omega
  · refine fin [(w0, t), (w1, t), (w2, .nil)] [.ref q0, .ref q1, .ref q2] _ (by simp) (by simp) (by simp) (fun m hm => okm m ?_) ?_ ?_ ?_ ⟨q0, _, _, rfl, tu8 _ _ _ eq04, t4.tups (tu8 _), q1, _, _, rfl, tu8 _ _ _ eq14, t4.tups (tu8 _), q2, _, _, rfl, eq28 _, ⟨u, [], rfl, eu8 _, rfl⟩, rfl⟩ upd_same (S7.upd fl1 fl2 fl3) (k8 _) _ rfl
    · simp only [List.mem_cons, List.not_mem_nil, or_false] at hm
      rcases hm with h | h | h
      · exact .inl h
      · exact .inr (.inl h)
      · exact .inr (.inr h)
    · simp [n01, n02, n12]
    · show 1 + (t.recs + (t.recs + (0 + 0))) ≤ 5
      omega
    · show t.plains + (t.plains + (1 + 0)) ≤ 5
      omega
end
end Lx

namespace Lx
open PySem PySem.Spec PyProof.Rows L2 Ub Ur Ve
section
variable {P : Program} {w : World} {K : PySem.W.Frag} {mg : Str → Option Value} {base : Heap}
theorem sc_law_odd : FnScope ["_law_state", "_law_some"] ["_law_state"] (defScope s_law_odd) := ⟨rfl, rfl, rfl, by decide +kernel, rfl, by decide +kernel, by decide +kernel⟩
theorem ok_law_odd {f : Addr} {fd : FuncData} (F : FunD K "_law_odd" "_law_odd" (defArgs s_law_odd) (defBody s_law_odd) (defScope s_law_odd) [] [] f fd) (T : Tx K mg) (c_law_of : Cal P w K mg base 2 "_law_of" ["_law_state", "_law_some"] sp_of) : FnOk P w K mg base CX0 3 f fd ["_law_state"] sp_oddN := by
  refine F.ok sc_law_odd (fun vs H Q E h => ?_) (fun cdv A outer s H vs Q E hr h => ?_)
  · obtain ⟨st, g, l, N, rfl, _⟩ := h
    rfl
  · obtain ⟨st, g, l, N, rfl, S, hN, q⟩ := h
    refine ⟨_, PSs.nox (pss_cons (ps_set (i := 1) sc_law_odd.nd rfl (by first | exact Or.inl rfl | exact Or.inr rfl) (pe_lst (pa_cons pe_non (pa_cons pe_bl (pa_cons pe_bl (pa_cons pe_int (pa_cons pe_int (pa_cons (pe_un un_neg pe_int) (pa_cons (pe_op op_pow pe_int pe_int) (pa_cons pe_str (pa_cons pe_str (pa_cons pe_str (pa_cons pe_str (pa_cons pe_str (pa_cons pe_str pa_nil)))))))))))))))
      (pss_cons (ps_set (i := 1) sc_law_odd.nd rfl (by first | exact Or.inl rfl | exact Or.inr rfl) (pe_op op_cat (pv 1) (pe_lst (pa_cons (pe_lst pa_nil) (pa_cons (pe_lst (pa_cons pe_int pa_nil)) (pa_cons (pe_lst (pa_cons pe_int (pa_cons pe_int pa_nil))) (pa_cons (pe_tup (pa_cons pe_non pa_nil)) (pa_cons (pe_tup (pa_cons pe_bl pa_nil)) (pa_cons (pe_tup (pa_cons (pe_tup pa_nil) (pa_cons pe_int pa_nil))) (pa_cons (pe_tup (pa_cons pe_str (pa_cons pe_int (pa_cons (pe_lst pa_nil) pa_nil)))) (pa_cons (pe_lst (pa_cons (pe_lst pa_nil) (pa_cons (pe_lst (pa_cons (pe_tup pa_nil) pa_nil)) pa_nil))) pa_nil)))))))))))
      (pss_one (ps_ret (pe_cal c_law_of (hr.mono (by omega)) (by rfl) (pa_cons (pv 0) (pa_cons (pe_op op_cat (pv 1) (pe_lst (pa_cons (pe_lst (pa_cons pe_non pa_nil)) (pa_cons pe_str (pa_cons pe_str (pa_cons pe_str pa_nil)))))) pa_nil))))))), ?_⟩
    refine ⟨1, rfl, 10, 29, rfl, rfl, ⟨by decide, by decide, by decide⟩, (by show 13 ≤ sizeLine; decide), fun p hp => ?_⟩
    refine ⟨_, rfl, Nat.zero_le _, fun a1 n1 => ?_⟩
    refine ⟨(by show 1 ≤ sizeLine; decide), fun a2 n2 => ⟨(by show 2 ≤ sizeLine; decide), fun a3 n3 => ⟨(by show 1 ≤ sizeLine; decide), fun a4 n4 => ⟨(by show 1 ≤ sizeLine; decide), fun a5 n5 => ⟨Nat.zero_le _, fun a6 n6 => ⟨(by show 2 ≤ sizeLine; decide), fun a7 n7 => ⟨Nat.zero_le _, fun a8 n8 => ⟨(by show 3 ≤ sizeLine; decide), fun a9 n9 => ⟨Nat.zero_le _, fun b1 m1 => ⟨Nat.zero_le _, fun b2 m2 => ⟨(by show 1 ≤ sizeLine; decide), fun b3 m3 => ⟨(by show 2 ≤ sizeLine; decide), fun b4 m4 => ⟨(by show 8 ≤ sizeLine; decide), fun r hr' => ?_⟩⟩⟩⟩⟩⟩⟩⟩⟩⟩⟩⟩⟩
    have s0 := same_upd (o := .lst [.non, .bl true, .bl false, .int 0, .int 1, .int (-1), .int (10 ^ (29 : Int).toNat), .str "", .str "..", .str ".A", .str " ", .str "\n", .str "a b"]) hp
    have e0 : (upd H p (.lst [.non, .bl true, .bl false, .int 0, .int 1, .int (-1), .int (10 ^ (29 : Int).toNat), .str "", .str "..", .str ".A", .str " ", .str "\n", .str "a b"])) p = some (.lst [.non, .bl true, .bl false, .int 0, .int 1, .int (-1), .int (10 ^ (29 : Int).toNat), .str "", .str "..", .str ".A", .str " ", .str "\n", .str "a b"]) := upd_same
    generalize upd H p (.lst [.non, .bl true, .bl false, .int 0, .int 1, .int (-1), .int (10 ^ (29 : Int).toNat), .str "", .str "..", .str ".A", .str " ", .str "\n", .str "a b"]) = H0 at *
    have s1 := same_upd (o := .lst []) n1
    have e1 : (upd H0 a1 (.lst [])) a1 = some (.lst []) := upd_same
    generalize upd H0 a1 (.lst []) = H1 at *
    have s2 := same_upd (o := .lst [.int 0]) n2
    have e2 : (upd H1 a2 (.lst [.int 0])) a2 = some (.lst [.int 0]) := upd_same
    generalize upd H1 a2 (.lst [.int 0]) = H2 at *
    have s3 := same_upd (o := .lst [.int 1, .int 2]) n3
    have e3 : (upd H2 a3 (.lst [.int 1, .int 2])) a3 = some (.lst [.int 1, .int 2]) := upd_same
    generalize upd H2 a3 (.lst [.int 1, .int 2]) = H3 at *
    have s4 := same_upd (o := .tup [.non]) n4
    have e4 : (upd H3 a4 (.tup [.non])) a4 = some (.tup [.non]) := upd_same
    generalize upd H3 a4 (.tup [.non]) = H4 at *
    have s5 := same_upd (o := .tup [.bl true]) n5
    have e5 : (upd H4 a5 (.tup [.bl true])) a5 = some (.tup [.bl true]) := upd_same
    generalize upd H4 a5 (.tup [.bl true]) = H5 at *
    have s6 := same_upd (o := .tup []) n6
    have e6 : (upd H5 a6 (.tup [])) a6 = some (.tup []) := upd_same
    generalize upd H5 a6 (.tup []) = H6 at *
    have s7 := same_upd (o := .tup [.ref a6, .int 0]) n7
    have e7 : (upd H6 a7 (.tup [.ref a6, .int 0])) a7 = some (.tup [.ref a6, .int 0]) := upd_same
    generalize upd H6 a7 (.tup [.ref a6, .int 0]) = H7 at *
    have s8 := same_upd (o := .lst []) n8
    have e8 : (upd H7 a8 (.lst [])) a8 = some (.lst []) := upd_same
    generalize upd H7 a8 (.lst []) = H8 at *
    have s9 := same_upd (o := .tup [.str "a", .int 1, .ref a8]) n9
    have e9 : (upd H8 a9 (.tup [.str "a", .int 1, .ref a8])) a9 = some (.tup [.str "a", .int 1, .ref a8]) := upd_same
    generalize upd H8 a9 (.tup [.str "a", .int 1, .ref a8]) = H9 at *
    have s10 := same_upd (o := .lst []) m1
    have e10 : (upd H9 b1 (.lst [])) b1 = some (.lst []) := upd_same
    generalize upd H9 b1 (.lst []) = H10 at *
    have s11 := same_upd (o := .tup []) m2
    have e11 : (upd H10 b2 (.tup [])) b2 = some (.tup []) := upd_same
    generalize upd H10 b2 (.tup []) = H11 at *
    have s12 := same_upd (o := .lst [.ref b2]) m3
    have e12 : (upd H11 b3 (.lst [.ref b2])) b3 = some (.lst [.ref b2]) := upd_same
    generalize upd H11 b3 (.lst [.ref b2]) = H12 at *
    have s13 := same_upd (o := .lst [.ref b1, .ref b3]) m4
    have e13 : (upd H12 b4 (.lst [.ref b1, .ref b3])) b4 = some (.lst [.ref b1, .ref b3]) := upd_same
    generalize upd H12 b4 (.lst [.ref b1, .ref b3]) = H13 at *
    have s14 := same_upd (o := .lst [.ref a1, .ref a2, .ref a3, .ref a4, .ref a5, .ref a7, .ref a9, .ref b4]) hr'
    have e14 : (upd H13 r (.lst [.ref a1, .ref a2, .ref a3, .ref a4, .ref a5, .ref a7, .ref a9, .ref b4])) r = some (.lst [.ref a1, .ref a2, .ref a3, .ref a4, .ref a5, .ref a7, .ref a9, .ref b4]) := upd_same
    generalize upd H13 r (.lst [.ref a1, .ref a2, .ref a3, .ref a4, .ref a5, .ref a7, .ref a9, .ref b4]) = H14 at *
    have t14 : Same H14 H14 := Same.refl _
    have t13 : Same H13 H14 := s14.trans t14
    have t12 : Same H12 H14 := s13.trans t13
    have t11 : Same H11 H14 := s12.trans t12
    have t10 : Same H10 H14 := s11.trans t11
    have t9 : Same H9 H14 := s10.trans t10
    have t8 : Same H8 H14 := s9.trans t9
    have t7 : Same H7 H14 := s8.trans t8
    have t6 : Same H6 H14 := s7.trans t7
    have t5 : Same H5 H14 := s6.trans t6
    have t4 : Same H4 H14 := s5.trans t5
    have t3 : Same H3 H14 := s4.trans t4
    have t2 : Same H2 H14 := s3.trans t3
    have t1 : Same H1 H14 := s2.trans t2
    have t0 : Same H0 H14 := s1.trans t1
    refine ⟨p, r, _, _, rfl, rfl, t0 _ _ e0, e14, (by show 13 + 8 ≤ sizeLine; decide), fun c nc => ?_⟩
    have s15 := same_upd (o := .lst ([.non, .bl true, .bl false, .int 0, .int 1, .int (-1), .int (10 ^ (29 : Int).toNat), .str "", .str "..", .str ".A", .str " ", .str "\n", .str "a b"] ++ [.ref a1, .ref a2, .ref a3, .ref a4, .ref a5, .ref a7, .ref a9, .ref b4])) nc
    have e15 : (upd H14 c (.lst ([.non, .bl true, .bl false, .int 0, .int 1, .int (-1), .int (10 ^ (29 : Int).toNat), .str "", .str "..", .str ".A", .str " ", .str "\n", .str "a b"] ++ [.ref a1, .ref a2, .ref a3, .ref a4, .ref a5, .ref a7, .ref a9, .ref b4]))) c = some (.lst ([.non, .bl true, .bl false, .int 0, .int 1, .int (-1), .int (10 ^ (29 : Int).toNat), .str "", .str "..", .str ".A", .str " ", .str "\n", .str "a b"] ++ [.ref a1, .ref a2, .ref a3, .ref a4, .ref a5, .ref a7, .ref a9, .ref b4])) := upd_same
    generalize upd H14 c (.lst ([.non, .bl true, .bl false, .int 0, .int 1, .int (-1), .int (10 ^ (29 : Int).toNat), .str "", .str "..", .str ".A", .str " ", .str "\n", .str "a b"] ++ [.ref a1, .ref a2, .ref a3, .ref a4, .ref a5, .ref a7, .ref a9, .ref b4])) = H15 at *
    refine ⟨_, rfl, _, rfl, (by show 1 ≤ sizeLine; decide), fun d1 nd1 => ⟨(by show 4 ≤ sizeLine; decide), fun d2 nd2 => ?_⟩⟩
    have s16 := same_upd (o := .lst [.non]) nd1
    have e16 : (upd H15 d1 (.lst [.non])) d1 = some (.lst [.non]) := upd_same
    generalize upd H15 d1 (.lst [.non]) = H16 at *
    have s17 := same_upd (o := .lst [.ref d1, .str "update", .str "{", .str "}"]) nd2
    have e17 : (upd H16 d2 (.lst [.ref d1, .str "update", .str "{", .str "}"])) d2 = some (.lst [.ref d1, .str "update", .str "{", .str "}"]) := upd_same
    generalize upd H16 d2 (.lst [.ref d1, .str "update", .str "{", .str "}"]) = H17 at *
    refine ⟨c, d2, _, _, rfl, rfl, s17 _ _ (s16 _ _ e15), e17, (by show 21 + 4 ≤ sizeLine; decide), fun e ne => ?_⟩
    have s18 := same_upd (o := .lst ([.non, .bl true, .bl false, .int 0, .int 1, .int (-1), .int (10 ^ (29 : Int).toNat), .str "", .str "..", .str ".A", .str " ", .str "\n", .str "a b"] ++ [.ref a1, .ref a2, .ref a3, .ref a4, .ref a5, .ref a7, .ref a9, .ref b4] ++ [.ref d1, .str "update", .str "{", .str "}"])) ne
    have sall : Same H _ := (((((s0.trans t0).trans s15).trans s16).trans s17).trans s18)
    have S' := S.same sall
    have Sx := S.same ((((s0.trans t0).trans s15).trans s16).trans s17)
    have tl : Same H14 _ := ((s15.trans s16).trans s17).trans s18
    obtain ⟨⟨gs, ls, cc, ca, h1, h2, h3, hrest⟩, _⟩ := id Sx
    refine ⟨st, g, l, e, _, rfl, upd_same, (ne_of_none h1 ne).symm, (ne_of_none h2 ne).symm, (ne_of_none h3 ne).symm, by simp, (by show 25 ≤ 1000; decide), S', fun v H' hv S2 k => ?_⟩
    refine q v H' ?_ S2 ((Kp.of sall).trans k)
    have far : ∀ {b : Addr} {o : HO}, H = H → (upd H17 e (.lst ([.non, .bl true, .bl false, .int 0, .int 1, .int (-1), .int (10 ^ (29 : Int).toNat), .str "", .str "..", .str ".A", .str " ", .str "\n", .str "a b"] ++ [.ref a1, .ref a2, .ref a3, .ref a4, .ref a5, .ref a7, .ref a9, .ref b4] ++ [.ref d1, .str "update", .str "{", .str "}"]))) b = some o → (H b = none) → H' b = some o := fun {b o} _ hb hn =>
      k _ _ hb (fun z => by
        obtain ⟨⟨_, _, _, _, y1, y2, y3, _⟩, _⟩ := id S
        rw [z, y1] at hn
        cases hn) (fun z => by
        obtain ⟨⟨_, _, _, _, y1, y2, y3, _⟩, _⟩ := id S
        rw [z, y2] at hn
        cases hn) (fun z => by
        obtain ⟨⟨_, _, _, _, y1, y2, y3, _⟩, _⟩ := id S
        rw [z, y3] at hn
        cases hn)
    have nn : ∀ {b : Addr}, H b = none → b ∉ N := fun {b} hn z => by
      obtain ⟨o, h⟩ := hN b z
      rw [hn] at h
      cases h
    have mk : ∀ {b : Addr} {o : HO}, (upd H17 e (.lst ([.non, .bl true, .bl false, .int 0, .int 1, .int (-1), .int (10 ^ (29 : Int).toNat), .str "", .str "..", .str ".A", .str " ", .str "\n", .str "a b"] ++ [.ref a1, .ref a2, .ref a3, .ref a4, .ref a5, .ref a7, .ref a9, .ref b4] ++ [.ref d1, .str "update", .str "{", .str "}"]))) b = some o → (H b = none) → H' b = some o ∧ b ∉ N := fun h1 h2 => ⟨far rfl h1 h2, nn h2⟩
    have f1 := s0.free n1
    have f2 := s0.free (s1.free n2)
    have f3 := s0.free (s1.free (s2.free n3))
    have f4 := s0.free (s1.free (s2.free (s3.free n4)))
    have f5 := s0.free (s1.free (s2.free (s3.free (s4.free n5))))
    have f6 := s0.free (s1.free (s2.free (s3.free (s4.free (s5.free n6)))))
    have f7 := s0.free (s1.free (s2.free (s3.free (s4.free (s5.free (s6.free n7))))))
    have f8 := s0.free (s1.free (s2.free (s3.free (s4.free (s5.free (s6.free (s7.free n8)))))))
    have f9 := s0.free (s1.free (s2.free (s3.free (s4.free (s5.free (s6.free (s7.free (s8.free n9))))))))
    have f10 := s0.free (s1.free (s2.free (s3.free (s4.free (s5.free (s6.free (s7.free (s8.free (s9.free m1)))))))))
    have f11 := s0.free (s1.free (s2.free (s3.free (s4.free (s5.free (s6.free (s7.free (s8.free (s9.free (s10.free m2))))))))))
    have f12 := s0.free (s1.free (s2.free (s3.free (s4.free (s5.free (s6.free (s7.free (s8.free (s9.free (s10.free (s11.free m3)))))))))))
    have f13 := s0.free (s1.free (s2.free (s3.free (s4.free (s5.free (s6.free (s7.free (s8.free (s9.free (s10.free (s11.free (s12.free m4))))))))))))
    have g1 := mk (tl _ _ (t1 _ _ e1)) f1
    have g2 := mk (tl _ _ (t2 _ _ e2)) f2
    have g3 := mk (tl _ _ (t3 _ _ e3)) f3
    have g4 := mk (tl _ _ (t4 _ _ e4)) f4
    have g5 := mk (tl _ _ (t5 _ _ e5)) f5
    have g6 := mk (tl _ _ (t6 _ _ e6)) f6
    have g7 := mk (tl _ _ (t7 _ _ e7)) f7
    have g8 := mk (tl _ _ (t8 _ _ e8)) f8
    have g9 := mk (tl _ _ (t9 _ _ e9)) f9
    have g10 := mk (tl _ _ (t10 _ _ e10)) f10
    have g11 := mk (tl _ _ (t11 _ _ e11)) f11
    have g12 := mk (tl _ _ (t12 _ _ e12)) f12
    have g13 := mk (tl _ _ (t13 _ _ e13)) f13
    have g16 := mk (s18 _ _ (s17 _ _ e16)) (s0.free (t0.free (s15.free nd1)))
    have dall : DtVs N H' ([.non, .bl true, .bl false, .int 0, .int 1, .int (-1), .int (10 ^ (29 : Int).toNat), .str "", .str "..", .str ".A", .str " ", .str "\n", .str "a b", .ref a1, .ref a2, .ref a3, .ref a4, .ref a5, .ref a7, .ref a9, .ref b4, .ref d1, .str "update", .str "{", .str "}"]) odds :=
      .cons .non <| .cons (.bl _) <| .cons (.bl _) <| .cons (.int _) <| .cons (.int _) <| .cons (.int _) <| .cons (.int _) <| .cons (.str _) <| .cons (.str _) <| .cons (.str _) <| .cons (.str _) <| .cons (.str _) <| .cons (.str _) <|
      .cons (.lst g1.1 g1.2 .nil) <| .cons (.lst g2.1 g2.2 (.cons (.int _) .nil)) <| .cons (.lst g3.1 g3.2 (.cons (.int _) (.cons (.int _) .nil))) <| .cons (.tup g4.1 g4.2 (.cons .non .nil)) <| .cons (.tup g5.1 g5.2 (.cons (.bl _) .nil)) <|
      .cons (.tup g7.1 g7.2 (.cons (.tup g6.1 g6.2 .nil) (.cons (.int _) .nil))) <| .cons (.tup g9.1 g9.2 (.cons (.str _) (.cons (.int _) (.cons (.lst g8.1 g8.2 .nil) .nil)))) <|
      .cons (.lst g13.1 g13.2 (.cons (.lst g10.1 g10.2 .nil) (.cons (.lst g12.1 g12.2 (.cons (.tup g11.1 g11.2 .nil) .nil)) .nil))) <| .cons (.lst g16.1 g16.2 (.cons .non .nil)) <| .cons (.str _) <| .cons (.str _) <| .cons (.str _) .nil
    exact dall.mem hv
end
end Lx

namespace Lx
open PySem PySem.Spec PyProof.Rows L2 Ub Ur Ug Ue
section
variable {P : Program} {w : World} {K : PySem.W.Frag} {mg : Str → Option Value} {base : Heap}
theorem sc_BadShape : FnScope ["self", "text"] ["self", "text"] (defScope s_BadShape___init__) := ⟨rfl, rfl, rfl, by decide +kernel, rfl, by decide +kernel, by decide +kernel⟩
theorem x_BadShape {fd : FuncData} (F : Df K ("BadShape", some "__init__") "__init__" "BadShape.__init__" s_BadShape___init__ [] fd) (T : Tx K mg) : CalX P w K mg base 1 "BadShape" (He.ga K "BadShape") "text" := by
  refine ⟨_, fd, ["self", "text"], T.x_BadShape, F.ok sc_BadShape (fun vs H Q E h => by obtain ⟨a, y, rfl, _⟩ := h; rfl) (fun cdv A outer s H vs Q E hr h => ?_), F.bindsN fun _ _ _ _ _ _ us hl => match us, hl with | [_, _], _ => rfl, T.g_BadShape⟩
  obtain ⟨a, y, rfl, ha, q⟩ := h
  exact ⟨_, PSs.nox (pss_one (ps_ost (pv 0) (pv 1))), _, rfl, _, rfl, a, _, rfl, T.x_BadShape.o, T.x_BadShape.no, .inl ⟨ha, fun dx hd hne => q dx hd hne⟩⟩
theorem sc_BadPath : FnScope ["self", "path"] ["self", "path"] (defScope s_BadPath___init__) := ⟨rfl, rfl, rfl, by decide +kernel, rfl, by decide +kernel, by decide +kernel⟩
theorem x_BadPath {fd : FuncData} (F : Df K ("BadPath", some "__init__") "__init__" "BadPath.__init__" s_BadPath___init__ [] fd) (T : Tx K mg) : CalX P w K mg base 1 "BadPath" (He.ga K "BadPath") "path" := by
  refine ⟨_, fd, ["self", "path"], T.x_BadPath, F.ok sc_BadPath (fun vs H Q E h => by obtain ⟨a, y, rfl, _⟩ := h; rfl) (fun cdv A outer s H vs Q E hr h => ?_), F.bindsN fun _ _ _ _ _ _ us hl => match us, hl with | [_, _], _ => rfl, T.g_BadPath⟩
  obtain ⟨a, y, rfl, ha, q⟩ := h
  exact ⟨_, PSs.nox (pss_one (ps_ost (pv 0) (pv 1))), _, rfl, _, rfl, a, _, rfl, T.x_BadPath.o, T.x_BadPath.no, .inl ⟨ha, fun dx hd hne => q dx hd hne⟩⟩
theorem sc_BadValues : FnScope ["self", "given"] ["self", "given"] (defScope s_BadValues___init__) := ⟨rfl, rfl, rfl, by decide +kernel, rfl, by decide +kernel, by decide +kernel⟩
theorem x_BadValues {fd : FuncData} (F : Df K ("BadValues", some "__init__") "__init__" "BadValues.__init__" s_BadValues___init__ [] fd) (T : Tx K mg) : CalX P w K mg base 1 "BadValues" (He.ga K "BadValues") "given" := by
  refine ⟨_, fd, ["self", "given"], T.x_BadValues, F.ok sc_BadValues (fun vs H Q E h => by obtain ⟨a, y, rfl, _⟩ := h; rfl) (fun cdv A outer s H vs Q E hr h => ?_), F.bindsN fun _ _ _ _ _ _ us hl => match us, hl with | [_, _], _ => rfl, T.g_BadValues⟩
  obtain ⟨a, y, rfl, ha, q⟩ := h
  exact ⟨_, PSs.nox (pss_one (ps_ost (pv 0) (pv 1))), _, rfl, _, rfl, a, _, rfl, T.x_BadValues.o, T.x_BadValues.no, .inl ⟨ha, fun dx hd hne => q dx hd hne⟩⟩
theorem sc_BadValue : FnScope ["self", "value"] ["self", "value"] (defScope s_BadValue___init__) := ⟨rfl, rfl, rfl, by decide +kernel, rfl, by decide +kernel, by decide +kernel⟩
theorem x_BadValue {fd : FuncData} (F : Df K ("BadValue", some "__init__") "__init__" "BadValue.__init__" s_BadValue___init__ [] fd) (T : Tx K mg) : CalX P w K mg base 1 "BadValue" (He.ga K "BadValue") "value" := by
  refine ⟨_, fd, ["self", "value"], T.x_BadValue, F.ok sc_BadValue (fun vs H Q E h => by obtain ⟨a, y, rfl, _⟩ := h; rfl) (fun cdv A outer s H vs Q E hr h => ?_), F.bindsN fun _ _ _ _ _ _ us hl => match us, hl with | [_, _], _ => rfl, T.g_BadValue⟩
  obtain ⟨a, y, rfl, ha, q⟩ := h
  exact ⟨_, PSs.nox (pss_one (ps_ost (pv 0) (pv 1))), _, rfl, _, rfl, a, _, rfl, T.x_BadValue.o, T.x_BadValue.no, .inl ⟨ha, fun dx hd hne => q dx hd hne⟩⟩
end
end Lx

namespace Pt
open PySem PySem.Spec PyProof.Rows L2 Ub Ur Ug Ue Up Uo Vk Ve Wb
theorem plains_pos : ∀ t : Tr, 1 ≤ t.plains
  | .nil => Nat.le_refl _
  | .cons w t r => by
    have := plains_pos t
    show 1 ≤ (if t.isNil then 1 else t.spla) + r.spla
    have e : (if t.isNil then 1 else t.spla) = t.plains := rfl
    omega
def zTree : Tr := .ofFields [("zzzzzzzz", .ofFields [("a", .ofFields [("a", .nil)])])]
theorem zTree_text : (("{" : Str) ++ Txt.mul "z" 8 ++ ": {a: {a: .}}}") = zTree.text := by decide +kernel
theorem zTree_good : good zTree := by
  refine ⟨.inr (fineF_of _ _ _ (by simp) (by simp) (fun m hm => ?_) (by simp)), by decide, by decide⟩
  have e : m = (("zzzzzzzz" : Str), .ofFields [("a", .ofFields [("a", .nil)])]) := by simpa using hm
  rw [e]
  refine ⟨.inr (fineF_of _ _ _ (by simp) (by simp) (fun m hm => ?_) (by simp)), by decide +kernel, by simp⟩
  have e : m = (("a" : Str), Tr.ofFields [("a", .nil)]) := by simpa using hm
  rw [e]
  refine ⟨.inr (fineF_of _ _ _ (by simp) (by simp) (fun m hm => ?_) (by simp)), by decide +kernel, by simp⟩
  have e : m = (("a" : Str), Tr.nil) := by simpa using hm
  rw [e]
  exact ⟨rfl, by decide +kernel, by simp⟩
end Pt
namespace Lx
open PySem PySem.Spec PyProof.Rows L2 Ub Ur Ug Ue Up Uo Ve Va Vk Wb Pt
section
variable {P : Program} {w : World} {K : PySem.W.Frag} {mg : Str → Option Value} {base : Heap}
theorem sc_law : FnScope ["_law_script", "_law_state", "_law_tree_here", "_law_shape", "_law_values", "_law_turn", "_law_wrong", "_law_part", "_law_other", "_law_paths_here", "_law_known", "_law_path", "_law_below", "_law_near", "_law_bad", "_law_odd_here", "_law_place", "_law_value"] ["_law_script"] (defScope s_law) := ⟨rfl, rfl, rfl, by decide +kernel, rfl, by decide +kernel, by decide +kernel⟩
def sp_law (K : PySem.W.Frag) : Sp := fun vs H Q _ => ∃ (a : Addr) (ns : List Int), vs = [.ref a] ∧ SqL K H a (ns.map V.int) ∧ ns.length ≤ 63 ∧ ∀ H', Q (.bl true) H'
theorem ok_law {f : Addr} {fd : FuncData} (F : FunD K "law" "law" (defArgs s_law) (defBody s_law) (defScope s_law) [] [] f fd) (T : Tx K mg)
    (c_law_start : Cal P w K mg base 1 "_law_start" ["_law_script"] (sp_start K)) (c_law_draw : Cal P w K mg base 1 "_law_draw" ["_law_state", "_law_many"] sp_draw) (c_law_of : Cal P w K mg base 2 "_law_of" ["_law_state", "_law_some"] sp_of) (c_law_odd : Cal P w K mg base 3 "_law_odd" ["_law_state"] sp_oddN)
    (c_law_made_shape : Cal P w K mg base 9 "_law_made_shape" ["_law_state", "_law_least"] sp_mshape) (c_law_text : Cal P w K mg base 4 "_law_text" ["_law_tree_here"] (sp_tree 4 fun t => .str t.text)) (c_law_plains : Cal P w K mg base 4 "_law_plains" ["_law_tree_here"] (sp_tree 4 fun t => .int (t.plains : Nat)))
    (c_law_number : Cal P w K mg base 2 "_law_number" ["_law_state"] sp_number) (c_law_wrong_values : Cal P w K mg base 3 "_law_wrong_values" ["_law_state", "_law_values"] sp_wrong) (c_law_made : CalG P w K mg base 17 "_law_made" ["_law_shape", "_law_values"] (sp_lmade (C3 K)))
    (c_law_item : CalG P w K mg base 8 "_law_item" ["_law_part", "_law_path"] (sp_litem K (C3 K))) (c_law_put : CalG P w K mg base 9 "_law_put" ["_law_part", "_law_path", "_law_value"] (sp_lput K (C3 K))) (c_law_paths : Cal P w K mg base 4 "_law_paths" ["_law_tree_here"] (sp_lpaths 4))
    (m_Shape : CalM P w K mg base 16 "Shape" (He.ga K "Shape") ["self", "text"] (sp_shape K (He.ga K "Shape") (He.ga K "BadShape") 4)) (m_Part : CalMD P w K mg base 15 "Part" (He.ga K "Part") ["self", "shape", "values", "cells"] [V.non] (sp_part (C3 K) (He.ga K "BadValues") 4))
    (k_Part_getitem : CalK P w K mg base (CX P w) 4 (He.ga K "Part") "__getitem__" ["self", "path"] (sp_pget K (C3 K) (He.ga K "BadPath"))) (k_Part_contains : CalK P w K mg base CX0 3 (He.ga K "Part") "__contains__" ["self", "path"] (sp_pcon K (C3 K)))
    (k_Part_copied : CalK P w K mg base CX0 17 (He.ga K "Part") "copied" ["self"] (sp_copied (C3 K))) (p_Part_content : CalP P w K mg base 8 (He.ga K "Part") "content" (sp_pcont (C3 K) 4)) : FnG P w K mg base CX0 19 f fd ["_law_script"] (sp_law K) := by
  refine okG F sc_law (fun vs H Q E h => ?_) (fun cdv A outer s H vs Q E hG hr h => ?_)
  · obtain ⟨a, ns, rfl, _⟩ := h
    rfl
  obtain ⟨a, ns, rfl, hS, hl, q⟩ := h
  refine ⟨_, PSs.nox (pss_cons (ps_set (i := 1) sc_law.nd rfl (by first | exact Or.inl rfl | exact Or.inr rfl) (pe_cal c_law_start (hr.mono (by omega)) (by rfl) (pa_cons (pv 0) pa_nil)))
      (pss_cons (ps_set (i := 2) sc_law.nd rfl (by first | exact Or.inl rfl | exact Or.inr rfl) (pe_cal c_law_made_shape (hr.mono (by omega)) (by rfl) (pa_cons (pv 1) (pa_cons pe_int pa_nil))))
      (pss_cons (ps_set (i := 3) sc_law.nd rfl (by first | exact Or.inl rfl | exact Or.inr rfl) (pe_makeS m_Shape (fun _ => passE0) (hr.mono (by omega)) (by rfl) (pa_cons (pe_cal c_law_text (hr.mono (by omega)) (by rfl) (pa_cons (pv 2) pa_nil)) pa_nil)))
      (pss_cons (ps_set (i := 4) sc_law.nd rfl (by first | exact Or.inl rfl | exact Or.inr rfl) (pe_callTy (call_tuple_ofK K) (by rfl) T.tuple (by decide +kernel) (pa_cons (pe_lc (own := [("_law_place", 16)]) (by rfl) sc_law.nd (pi_range1 (by rfl) T.range (pa_cons (pe_cal c_law_plains (hr.mono (by omega)) (by rfl) (pa_cons (pv 2) pa_nil)) pa_nil)) (blkOk_by (N := ["_law_script", "_law_state", "_law_tree_here", "_law_shape", "_law_values", "_law_turn", "_law_wrong", "_law_part", "_law_other", "_law_paths_here", "_law_known", "_law_path", "_law_below", "_law_near", "_law_bad", "_law_odd_here", "_law_place", "_law_value"]) (sc := (defScope s_law)) (by decide +kernel)) (fun _ _ _ _ _ => (pg_name (i := 16) sc_law.nd rfl (by first | exact Or.inl rfl | exact Or.inr rfl))) (fun _ _ _ _ _ => pts_nil) (fun _ _ _ _ _ => (pe_cal c_law_number (hr.mono (by omega)) (by rfl) (pa_cons (pv 1) pa_nil)))) pa_nil)))
      (pss_cons (ps_for PassesOwn.never rfl (pi_range1 (by rfl) T.range (pa_cons pe_int pa_nil)) (pg_name (i := 5) sc_law.nd rfl (by first | exact Or.inl rfl | exact Or.inr rfl))
        (pss_cons (ps_set (i := 6) sc_law.nd rfl (by first | exact Or.inl rfl | exact Or.inr rfl) (pe_cal c_law_wrong_values (hr.mono (by omega)) (by rfl) (pa_cons (pv 1) (pa_cons (pv 4) pa_nil))))
          (pss_one (ps_if (PW.pt (pw_or (pt_cmpR (op_neDK K hr.units) (pe_calG c_law_made hG (hr.mono (by omega)) (by rfl) (pa_cons (pv 3) (pa_cons (pv 6) pa_nil))) (pe_lst (pa_cons pe_bl (pa_cons pe_bl pa_nil))) (nomark _)) (pw_or1 (pt_truthK K (pe_calG c_law_made hG (hr.mono (by omega)) (by rfl) (pa_cons (pv 3) (pa_cons (pv 4) pa_nil))) (by intro _; rfl)))))
            (pss_one (ps_ret pe_bl))
            pss_nil))))
      (pss_cons (ps_set (i := 7) sc_law.nd rfl (by first | exact Or.inl rfl | exact Or.inr rfl) (pe_makeD m_Part (fun _ => passE0) (hr.mono (by omega)) (by rfl) (pa_cons (pv 3) (pa_cons (pv 4) pa_nil))))
      (pss_cons (ps_set (i := 8) sc_law.nd rfl (by first | exact Or.inl rfl | exact Or.inr rfl) (pe_makeD m_Part (fun _ => passE0) (hr.mono (by omega)) (by rfl) (pa_cons (pe_makeS m_Shape (fun _ => passE0) (hr.mono (by omega)) (by rfl) (pa_cons (pe_op op_add_str (pe_op op_add_str pe_str (pe_op op_mul_si pe_str pe_int)) pe_str) pa_nil)) (pa_cons (pe_tup (pa_cons pe_int pa_nil)) pa_nil))))
      (pss_cons (ps_set (i := 9) sc_law.nd rfl (by first | exact Or.inl rfl | exact Or.inr rfl) (pe_cal c_law_paths (hr.mono (by omega)) (by rfl) (pa_cons (pv 2) pa_nil)))
      (pss_cons (ps_setLc (i := 10) (own := [("_law_path", 11), ("_law_below", 12)]) (by rfl) sc_law.nd rfl rfl (sw_true rfl rfl rfl (by decide +kernel)) (pi_listK K (pv 9)) (blkOk_by (N := ["_law_script", "_law_state", "_law_tree_here", "_law_shape", "_law_values", "_law_turn", "_law_wrong", "_law_part", "_law_other", "_law_paths_here", "_law_known", "_law_path", "_law_below", "_law_near", "_law_bad", "_law_odd_here", "_law_place", "_law_value"]) (sc := (defScope s_law)) (by decide +kernel)) (fun _ _ _ _ _ => (pg_tupK K (n := 2) rfl (pgs_cons (pg_name (i := 11) sc_law.nd rfl (by first | exact Or.inl rfl | exact Or.inr rfl)) (pgs_cons (pg_name (i := 12) sc_law.nd rfl (by first | exact Or.inl rfl | exact Or.inr rfl)) pgs_nil)))) (fun _ _ _ _ _ => pts_nil) (fun _ _ _ _ _ => (pv 11)))
      (pss_cons (ps_for PassesOwn.never rfl (pi_range1 (by rfl) T.range (pa_cons pe_int pa_nil)) (pg_name (i := 5) sc_law.nd rfl (by first | exact Or.inl rfl | exact Or.inr rfl))
        (pss_cons (ps_asg (pe_cal c_law_of (hr.mono (by omega)) (by rfl) (pa_cons (pv 1) (pa_cons (pv 9) pa_nil))) (pg_tupK K (n := 2) rfl (pgs_cons (pg_name (i := 11) sc_law.nd rfl (by first | exact Or.inl rfl | exact Or.inr rfl)) (pgs_cons (pg_name (i := 12) sc_law.nd rfl (by first | exact Or.inl rfl | exact Or.inr rfl)) pgs_nil))))
          (pss_cons (ps_set (i := 13) sc_law.nd rfl (by first | exact Or.inl rfl | exact Or.inr rfl) (pe_cal c_law_of (hr.mono (by omega)) (by rfl) (pa_cons (pv 1) (pa_cons (pe_lst (pa_cons (pe_op op_add_str (pv 11) pe_str) (pa_cons (pe_op op_add_str (pv 11) pe_str) (pa_cons (pe_slice sl_str (pv 11) (po_some pe_int) po_none) (pa_cons (pe_op op_add_str pe_str (pv 11)) pa_nil))))) pa_nil))))
          (pss_cons (ps_set (i := 14) sc_law.nd rfl (by first | exact Or.inl rfl | exact Or.inr rfl) (pe_cal c_law_of (hr.mono (by omega)) (by rfl) (pa_cons (pv 1) (pa_cons (pe_lst (pa_cons (pv 13) (pa_cons (pe_cal c_law_odd (hr.mono (by omega)) (by rfl) (pa_cons (pv 1) pa_nil)) pa_nil))) pa_nil))))
          (pss_cons (ps_if (pt_cmpR (op_notInDK K (units65 hr)) (pv 14) (pv 10) (by rfl))
            (pss_cons (ps_if (PW.pt (pw_or (pt_cmpR (op_neDK K hr.units) (pe_calG c_law_item hG (hr.mono (by omega)) (by rfl) (pa_cons (pv 7) (pa_cons (pv 14) pa_nil))) (pe_lst (pa_cons pe_bl (pa_cons pe_bl pa_nil))) (nomark _)) (pw_or1 (pt_cmpR (op_inO k_Part_contains (E := E0) (fun _ => pas0) (hr.mono (by omega))) (pv 14) (pv 7) (by rfl)))))
                (pss_one (ps_ret pe_bl))
                pss_nil)
              (pss_one (ps_if (pt_cmpR (op_neDK K hr.units) (pe_calG c_law_put hG (hr.mono (by omega)) (by rfl) (pa_cons (pv 7) (pa_cons (pv 14) (pa_cons (pe_cal c_law_of (hr.mono (by omega)) (by rfl) (pa_cons (pv 1) (pa_cons (pe_lst (pa_cons pe_int (pa_cons pe_non (pa_cons (pv 7) pa_nil)))) pa_nil))) pa_nil)))) (pe_lst (pa_cons pe_str (pa_cons pe_bl pa_nil))) (nomark _))
                (pss_one (ps_ret pe_bl))
                pss_nil)))
            pss_nil)
          (pss_cons (ps_if (pt_cmpR (op_neDK K hr.units) (pe_calG c_law_put hG (hr.mono (by omega)) (by rfl) (pa_cons (pv 7) (pa_cons pe_str (pa_cons (pe_cal c_law_of (hr.mono (by omega)) (by rfl) (pa_cons (pv 1) (pa_cons (pe_lst (pa_cons pe_int (pa_cons (pv 7) (pa_cons (pv 8) pa_nil)))) pa_nil))) pa_nil)))) (pe_lst (pa_cons pe_str (pa_cons pe_bl pa_nil))) (nomark _))
            (pss_one (ps_ret pe_bl))
            pss_nil)
          (pss_cons (ps_set (i := 15) sc_law.nd rfl (by first | exact Or.inl rfl | exact Or.inr rfl) (pe_cal c_law_of (hr.mono (by omega)) (by rfl) (pa_cons (pv 1) (pa_cons (pe_lst (pa_cons pe_non (pa_cons pe_bl (pa_cons pe_str (pa_cons (pe_tup pa_nil) (pa_cons (pe_tup (pa_cons pe_int pa_nil)) (pa_cons (pe_lst (pa_cons pe_int pa_nil)) (pa_cons (pv 8) pa_nil)))))))) pa_nil))))
          (pss_cons (ps_if (PW.pt (pw_and (pt_cmpR (op_neDK K hr.units) (pv 12) (pe_tup pa_nil) (nomark _)) (pw_and1 (pt_cmpR op_ne (pv 11) pe_str (nomark _)))))
            (pss_one (ps_set (i := 15) sc_law.nd rfl (by first | exact Or.inl rfl | exact Or.inr rfl) (pe_cal c_law_of (hr.mono (by omega)) (by rfl) (pa_cons (pv 1) (pa_cons (pe_lst (pa_cons (pv 15) (pa_cons pe_int (pa_cons (pe_propP p_Part_content (hr.mono (by omega)) (pe_ixO k_Part_getitem (fun _ => passE0) (hr.mono (by omega)) (pv 7) (pv 11) (fun _ _ => rfl))) (pa_cons (pv 7) pa_nil))))) pa_nil)))))
            pss_nil)
          (pss_cons (ps_if (PW.pt (pw_and (pt_cmpR op_ne (pv 11) pe_str (nomark _)) (pw_and1 (pt_cmpR (op_neDK K hr.units) (pe_calG c_law_put hG (hr.mono (by omega)) (by rfl) (pa_cons (pv 7) (pa_cons (pv 11) (pa_cons (pv 15) pa_nil)))) (pe_lst (pa_cons pe_str (pa_cons pe_bl pa_nil))) (nomark _)))))
            (pss_one (ps_ret pe_bl))
            pss_nil)
          (pss_one (ps_if (pt_cmpR (op_neDK K hr.units) (pe_propP p_Part_content (hr.mono (by omega)) (pv 7)) (pv 4) (nomark _))
            (pss_one (ps_ret pe_bl))
            pss_nil)))))))))))
      (pss_cons (ps_for PassesOwn.never rfl (pi_listK K (pe_slice (sl_listK K) (pv 9) (po_some pe_int) po_none)) (pg_tupK K (n := 2) rfl (pgs_cons (pg_name (i := 11) sc_law.nd rfl (by first | exact Or.inl rfl | exact Or.inr rfl)) (pgs_cons (pg_name (i := 12) sc_law.nd rfl (by first | exact Or.inl rfl | exact Or.inr rfl)) pgs_nil)))
        (pss_one (ps_if (pt_truthK K (pe_calG c_law_put hG (hr.mono (by omega)) (by rfl) (pa_cons (pv 7) (pa_cons (pv 11) (pa_cons (pe_ifExp (pt_cmpR (op_eq_nilK K hr.units0) (pv 12) (pe_tup pa_nil) (nomark _)) pe_int (pe_meth0K k_Part_copied T.k_Part (hr.mono (by omega)) pass0 (pe_ixO k_Part_getitem (fun _ => passE0) (hr.mono (by omega)) (pv 7) (pv 11) (fun _ _ => rfl)))) pa_nil)))) (by intro _; rfl))
            (pss_one (ps_ret pe_bl))
            pss_nil)))
      (pss_one (ps_ret (pe_cmpR (op_eqDK K hr.units) (pe_propP p_Part_content (hr.mono (by omega)) (pv 7)) (pe_callTy (call_tuple_ofK K) (by rfl) T.tuple (by decide +kernel) (pa_cons (pe_lc (own := [("_law_value", 17)]) (by rfl) sc_law.nd (pi_tupK K (pv 4)) (blkOk_by (N := ["_law_script", "_law_state", "_law_tree_here", "_law_shape", "_law_values", "_law_turn", "_law_wrong", "_law_part", "_law_other", "_law_paths_here", "_law_known", "_law_path", "_law_below", "_law_near", "_law_bad", "_law_odd_here", "_law_place", "_law_value"]) (sc := (defScope s_law)) (by decide +kernel)) (fun _ _ _ _ _ => (pg_name (i := 17) sc_law.nd rfl (by first | exact Or.inl rfl | exact Or.inr rfl))) (fun _ _ _ _ _ => pts_nil) (fun _ _ _ _ _ => pe_int)) pa_nil)) (nomark _))))))))))))))), ?_⟩
  refine ⟨_, rfl, a, ns, rfl, hS, hl, fun st g l H1 n1 n2 n3 S1 s1 => ?_⟩
  clear hS s1 n1 n2 n3
  refine ⟨_, rfl, st, g, l, 2, rfl, by decide, by decide, S1, fun t tv H2 gt tn tl ht2 S2 k2 => ?_⟩
  clear S1 k2
  obtain ⟨td, tz, th⟩ := good_has gt
  -- the shape
  refine ⟨_, rfl, t, tv, rfl, ht2, by omega, by omega, th, fun H3 s3 sx dx nx ndx hne => ?_⟩
  refine ⟨sx, _, dx, rfl, upd_same, .inl ⟨t, gt, by omega, rfl, fun gg H4 eg k4 sh4 => ⟨rfl, ?_⟩⟩⟩
  have s34 : Same H3 H4 := fun b o h => k4 b o (by rw [upd_ne (ne_of_none h nx), upd_ne (ne_of_none h ndx)]; exact h) (ne_of_none h nx)
  have s24 := s3.trans s34
  subst eg
  have shA : ShG (Zm AllZ (fun _ => none)) (He.ga K "Shape") H4 sx gg := sh4.imp fun _ _ _ => ⟨trivial, fun p n e => nomatch e⟩
  have S4 := S2.same s24
  have ht4 := ht2.same s24
  clear k4 sh4 s34 s24 s3 S2 ht2 nx ndx hne
  dsimp only [gName]
  -- the values
  have p5 : gg.tr.plains ≤ 5 := gt.2.2
  have p1 := plains_pos gg.tr
  refine ⟨_, rfl, gg.tr, tv, rfl, ht4, by omega, by omega, th, fun H5 s5 => ⟨(gg.tr.plains : Nat), rfl, by omega, by omega, fun D nD => ?_⟩⟩
  have S5 := S4.same s5
  obtain ⟨D1, D2, D3⟩ := S5.ne nD
  refine lc_range (lo := 0) (n := gg.tr.plains) (fun i HH => StAt HH st g l ∧ Kp st g l H5 HH ∧ ∃ is : List Int, HH D = some (.lst (is.map V.int)) ∧ is.length = i ∧ ∀ x ∈ is, Num x) ?_ (fun i HH hi p => ?_) (fun HH p => ?_)
  · exact ⟨S5.same (same_upd nD), Kp.of (same_upd nD), [], upd_same, rfl, fun x h => nomatch h⟩
  · obtain ⟨S, kk, is, hD, li, hnum⟩ := p
    refine ⟨rfl, _, rfl, st, g, l, rfl, S, fun j H' hj S' k' => ?_⟩
    have hD' := k' _ _ hD D1 D2 D3
    refine ⟨_, hD', sz6 (by rw [List.length_map]; omega), S'.upd D1 D2 D3, ?_, is ++ [j], by rw [upd_same, List.map_append]; rfl, by rw [List.length_append, li]; rfl, fun x hx => ?_⟩
    · intro b o e b1 b2 b3
      rw [upd_ne (ne_of_none e nD)]
      exact k' _ _ (kk _ _ e b1 b2 b3) b1 b2 b3
    · rcases List.mem_append.mp hx with hx | hx
      · exact hnum x hx
      · have e : x = j := by simpa using hx
        rw [e]; exact hj
  obtain ⟨S6, k6, is, hD6, lis, hnum⟩ := p
  refine ⟨D, _, rfl, .inl ⟨.inl (.inl hD6), fun va nva => ?_⟩⟩
  have s7 := same_upd (o := .tup (is.map V.int)) nva
  have hva : (upd HH va (.tup (is.map V.int))) va = some (.tup (is.map V.int)) := upd_same
  have kB : Kp st g l H4 (upd HH va (.tup (is.map V.int))) := ((Kp.of s5).trans k6).trans (Kp.of s7)
  have S7 := S6.same s7
  dsimp only [gName]
  generalize upd HH va (.tup (is.map V.int)) = B1 at *
  have shB := shA.kz (Kl.kp S4 kB).kz
  have ht7 := ht4.tups (kp_tups S4 kB)
  clear kB s7 nva hD6 k6 S6 D1 D2 D3 nD S5 s5 shA S4 ht4
  -- values refused
  refine ⟨4, rfl, by decide, by decide, ?_⟩
  refine for_range (lo := 0) (n := 4) (fun i σ HH => ∃ y5 y6, σ = [some (.ref a), some (.ref st), some tv, some (.ref sx), some (.ref va), y5, y6, none, none, none, none, none, none, none, none, none, none, none] ∧ StAt HH st g l ∧ Kp st g l B1 HH) ?_ (fun i σ HH hi p => ?_) (fun σ HH p => ?_)
  · exact ⟨_, _, rfl, S7, Kp.refl _⟩
  · obtain ⟨y5, y6, rfl, S, kk⟩ := p
    have va1 := kp_tups S7 kk _ _ hva
    refine ⟨_, rfl, _, rfl, st, g, l, va, is, rfl, va1, by omega, by omega, hnum, S, fun v d H8 dv wr S8 k8 => ?_⟩
    have kk8 := kk.trans k8
    have sh8 := shB.kz (Kl.kp S7 kk8).kz
    have va8 := kp_tups S7 kk8 _ _ hva
    rw [lis] at wr
    refine ⟨_, rfl, _, rfl, AllZ, fun _ => none, sx, gg, v, rfl, pg_none, sh8, gt, tn, .inr ⟨d, dv.free, wr.le, wr.no, wr.rp, fun D1 H9 s9 nD1 hD1 => ?_⟩⟩
    refine ⟨(by show 2 ≤ sizeLine; decide), fun D2 nD2 => ?_⟩
    have s10 := same_upd (o := .lst [.bl true, .bl true]) nD2
    have hD2 : (upd H9 D2 (.lst [.bl true, .bl true])) D2 = some (.lst [.bl true, .bl true]) := upd_same
    generalize upd H9 D2 (.lst [.bl true, .bl true]) = H10 at *
    refine ⟨.list [.bool true, .bool true], .list [.bool true, .bool true], (DtV.lst (N := []) (s10 _ _ hD1) (by simp) (.cons (.bl _) (.cons (.bl _) .nil))).dp, (DtV.lst (N := []) hD2 (by simp) (.cons (.bl _) (.cons (.bl _) .nil))).dp, by decide +kernel, by decide +kernel, _, rfl, ?_⟩
    refine iteE (c := false) (by decide +kernel) (fun z => nomatch z) fun _ => ?_
    have s810 := s9.trans s10
    refine ⟨_, rfl, _, rfl, AllZ, fun _ => none, sx, gg, _, rfl, pg_none, sh8.kz (kz_of s810), gt, tn, .inl ⟨va, is, rfl, s810 _ _ va8, lis, fun D3 H11 s11 nD3 hD3 => ?_⟩⟩
    refine ⟨false, .inl ⟨_, .inl (.inl hD3), rfl⟩, iteF ?_⟩
    exact ⟨_, _, rfl, S8.same (s810.trans s11), kk8.trans (Kp.of (s810.trans s11))⟩
  obtain ⟨y5, y6, rfl, S8, k8⟩ := p
  generalize HH = B2 at *
  have sh2 := shB.kz (Kl.kp S7 k8).kz
  have va2 := kp_tups S7 k8 _ _ hva
  have ht2 := ht7.tups (kp_tups S7 k8)
  clear shB hva ht7 k8 S7
  -- a part
  refine ⟨_, rfl, _, rfl, fun x dx nx ndx hne => ?_⟩
  refine ⟨B2, AllZ, fun _ => none, x, dx, sx, gg, .ref va, rfl, rfl, nx, ndx, hne, pg_none, sh2, gt, tn, by omega, .inl ⟨va, is, rfl, va2, lis, fun M1 B3 md1 => ⟨rfl, ?_⟩⟩⟩
  have S3 := S8.same md1.same
  have ht3 := ht2.same md1.same
  have va3 := md1.same _ _ va2
  obtain ⟨n1, hp1, _, eg1⟩ := md1.at_
  have con1 := md1.con
  have ok1 := md1.ok
  clear md1 sh2 va2 ht2 S8 nx ndx hne
  dsimp only [gName]
  -- another one
  refine ⟨"z", 8, 1, 8, rfl, rfl, by decide +kernel, by decide, by decide, by decide, by decide, "{", _, rfl, rfl, by decide +kernel, _, _, rfl, rfl, by decide +kernel, fun sz dz nsz ndz hnez => ?_⟩
  refine ⟨sz, _, dz, rfl, upd_same, .inl ⟨zTree, zTree_good, by decide, by rw [zTree_text], fun gz H4 egz k4 sh4 => ⟨rfl, ?_⟩⟩⟩
  have s34 : Same B3 H4 := fun b o h => k4 b o (by rw [upd_ne (ne_of_none h nsz), upd_ne (ne_of_none h ndz)]; exact h) (ne_of_none h nsz)
  have shz : ShG (Zm AllZ M1) (He.ga K "Shape") H4 sz gz := sh4.imp fun b hb hn => ⟨trivial, fun p n e y => by
    have c := (ok1.nd p n e).cells
    rw [y] at c
    rcases hb with hb | hb
    · rw [hb, nsz] at c; cases c
    · rw [upd_ne (ne_of_none c nsz), upd_ne (ne_of_none c ndz), c] at hb; cases hb⟩
  refine ⟨(by show 1 ≤ sizeLine; decide), fun a4 na4 x2 dx2 nx2 ndx2 hne2 => ?_⟩
  have s45 := same_upd (o := .tup [.int 4]) na4
  have e45 : (upd H4 a4 (.tup [.int 4])) a4 = some (.tup ([4].map V.int)) := upd_same
  have ok4 := ok1.same (s34.trans s45)
  have sh5 := shz.kz (kz_of s45)
  refine ⟨upd H4 a4 (.tup [.int 4]), AllZ, M1, x2, dx2, sz, gz, .ref a4, rfl, rfl, nx2, ndx2, hne2, ok4, sh5, by rw [egz]; exact zTree_good, by rw [egz]; rfl, by rw [egz]; decide, .inl ⟨a4, [4], rfl, e45, by rw [egz]; rfl, fun M2 B4 md2 => ⟨rfl, ?_⟩⟩⟩
  have sX := (s34.trans s45).trans md2.same
  have S4 := S3.same sX
  have ht4 := ht3.same sX
  have va4 := sX _ _ va3
  have hp2 := md2.old _ _ hp1
  have con2 : content M2 x = is := by rw [← con1]; exact cont_mono ok1 md2.old 4 hp1
  obtain ⟨n2, hq2, _, eg2⟩ := md2.at_
  have en2 : n2.g.tr = zTree := by rw [eg2, egz]
  have ok2 := md2.ok
  clear md2 sX ok4 sh5 e45 s45 na4 nx2 ndx2 hne2 shz sh4 k4 s34 nsz ndz hnez ok1 con1 hp1 va3 ht3 S3
  dsimp only [gName]
  -- paths
  refine ⟨_, rfl, gg.tr, tv, rfl, ht4, by omega, gt, fun D2 ps B5 s5 nD2 hD2 f2 => ?_⟩
  have ln2 : ps.length ≤ 1000 := by
    rw [lnF f2]
    show (fp gg.tr).length + 1 ≤ _
    rw [fp_len]
    omega
  dsimp only [gName]
  refine ⟨_, rfl, D2, rfl, ⟨_, .inl (.inl hD2)⟩, fun D3 hD3 => ?_⟩
  refine lcM (walk_list (xs := ps)) (paths gg.tr) (lnF f2).symm (fun n => some (.str n.1)) (fun H s => s.seq (.inl (.inl hD2))) (sz4 (by omega)) hD3 (fun j x n H' hx hn s' => ?_) (fun B6 s6 d6 => ?_)
  · obtain ⟨p2, q2, k1, k2, _⟩ := FsAt.get (t := .ofFields (paths gg.tr)) f2 (by rw [Tr.fields_of]; exact hn)
    rw [k1] at hx
    cases hx
    intro Q1 Q0 h1 h0
    exact ⟨p2, _, rfl, .inl (.inl (s' _ _ k2)), rfl, _, _, rfl, _, _, rfl, rfl, rfl, _, rfl, h1 _ _ rfl (Same.refl _)⟩
  rw [List.filterMap_eq_map'] at d6
  have ed : (paths gg.tr).map (fun n => V.str n.1) = (pks gg.tr).map V.str := by unfold pks; rw [List.map_map]; rfl
  rw [ed] at d6
  have s46 := s5.trans s6
  have S6 := S4.same s46
  have ok6 := ok2.same s46
  have va6 := s46 _ _ va4
  have hD6 := s6 _ _ hD2
  have f6 : FsAt B6 (.ofFields (paths gg.tr)) ps := FsAt.tups (fun c zs e => s6 _ _ e) f2
  obtain ⟨D2a, D2b, D2c⟩ := S4.ne nD2
  obtain ⟨D3a, D3b, D3c⟩ := (S4.same s5).ne hD3
  clear ht4 va4 hD2 f2 s46 s6 s5 S4 nD2 hD3 ok2
  dsimp only [gName]
  have eg1' : n1.g.tr = gg.tr := by rw [eg1]
  refine ⟨6, rfl, by decide, by decide, ?_⟩
  refine for_range (lo := 0) (n := 6) (fun i σ HH => ∃ y5 y11 y12 y13 y14 y15, σ = [some (.ref a), some (.ref st), some tv, some (.ref sx), some (.ref va), y5, y6, some (.ref x), some (.ref x2), some (.ref D2), some (.ref D3), y11, y12, y13, y14, y15, none, none] ∧ StAt HH st g l ∧ Kp st g l B6 HH) ?_ (fun i σ HH hi pv => ?_) (fun σ HH pv => ?_)
  · exact ⟨_, _, _, _, _, _, rfl, S6, Kp.refl _⟩
  · obtain ⟨y5, y11, y12, y13, y14, y15, rfl, S, kk⟩ := pv
    -- a path
    refine ⟨_, rfl, _, rfl, st, g, l, D2, ps, rfl, kk _ _ hD6 D2a D2b D2c, D2a, D2b, D2c, ?_, ln2, S, fun v HA hv SA kA => ?_⟩
    · intro e
      have := lnF f6
      rw [e] at this
      cases this
    have kkA := kk.trans kA
    obtain ⟨jj, hjj⟩ := List.getElem?_of_mem hv
    have hlt : jj < (paths gg.tr).length := by
      rw [← lnF f6]
      exact (List.getElem?_eq_some_iff.mp hjj).1
    have hn0 : (paths gg.tr)[jj]? = some (paths gg.tr)[jj] := List.getElem?_eq_getElem hlt
    generalize (paths gg.tr)[jj] = pn at hn0
    have hpn := List.mem_of_getElem? hn0
    obtain ⟨pp, q2, c1, c2, c3⟩ := FsAt.get (t := .ofFields (paths gg.tr)) f6 (by rw [Tr.fields_of]; exact hn0)
    rw [c1] at hjj
    cases hjj
    obtain ⟨gpn, dpn, lpn, apn⟩ := paths_good 3 td gt pn hpn
    have gpn : good pn.2 := gpn
    have lpn : pn.1.length ≤ 28 := lpn
    have apn : Asc pn.1 := apn
    refine ⟨pp, _, rfl, .inl (.inl (kp_tups S6 kkA _ _ c2)), rfl, _, _, rfl, _, _, rfl, rfl, ?_⟩
    have tq := c3.tups (kp_tups S6 kkA)
    dsimp only [gName]
    -- something near
    refine ⟨_, rfl, _, rfl, _, _, rfl, rfl, sz4 (by rw [show ((".a" : Str)).length = 2 by decide +kernel]; omega), _, rfl, _, _, rfl, rfl, sz4 (by rw [dot_len]; omega), _, rfl, 1, rfl, _, rfl, sz4 (by omega), _, rfl, _, _, rfl, rfl, sz4 (by rw [dot_len]; omega), (by show 4 ≤ sizeLine; decide), fun E1 nE1 => ?_⟩
    have sE1 := same_upd (o := .lst [.str (pn.1 ++ ".a"), .str (pn.1 ++ "."), .str (cutS pn.1 (some 1) none), .str (("." : Str) ++ pn.1)]) nE1
    obtain ⟨E1a, E1b, E1c⟩ := SA.ne nE1
    refine ⟨st, g, l, E1, _, rfl, upd_same, E1a, E1b, E1c, by simp, by show 4 ≤ 1000; decide, SA.same sE1, fun vn HB hvn SB kB => ?_⟩
    have kkB := (kkA.trans (Kp.of sE1)).trans kB
    obtain ⟨zn, rfl, lzn, azn⟩ : ∃ z : Str, vn = .str z ∧ z.length ≤ 100 ∧ Asc z := by
      have c1 := cut_any pn.1 (some 1) none
      have e2 : ((".a" : Str)).length = 2 := by decide +kernel
      simp only [List.mem_cons, List.not_mem_nil, or_false] at hvn
      rcases hvn with e | e | e | e
      · exact ⟨_, e, by rw [len_app, e2]; omega, asc_app apn (asc_of (by decide +kernel))⟩
      · exact ⟨_, e, by rw [len_app, dot_len]; omega, asc_app apn (asc_of (by decide +kernel))⟩
      · exact ⟨_, e, by omega, asc_cut apn⟩
      · exact ⟨_, e, by rw [len_app, dot_len]; omega, asc_app (asc_of (by decide +kernel)) apn⟩
    clear sE1 E1a E1b E1c nE1 hvn kB kkA kA hv
    dsimp only [gName]
    refine ⟨_, rfl, _, rfl, _, rfl, st, g, l, [st, g, l], rfl, SB, fun n hn => ?_, fun vo HC hvo SC kC => ?_⟩
    · obtain ⟨⟨_, _, _, _, z1, z2, z3, _⟩, _⟩ := id SB
      simp only [List.mem_cons, List.not_mem_nil, or_false] at hn
      rcases hn with rfl | rfl | rfl
      · exact ⟨_, z1⟩
      · exact ⟨_, z2⟩
      · exact ⟨_, z3⟩
    refine ⟨(by show 2 ≤ sizeLine; decide), fun E2 nE2 => ?_⟩
    have sE2 := same_upd (o := .lst [.str zn, vo]) nE2
    obtain ⟨E2a, E2b, E2c⟩ := SC.ne nE2
    refine ⟨st, g, l, E2, _, rfl, upd_same, E2a, E2b, E2c, by simp, by show 2 ≤ 1000; decide, SC.same sE2, fun vb HD hvb SD kD => ?_⟩
    have kkD := ((kkB.trans kC).trans (Kp.of sE2)).trans kD
    obtain ⟨db, dvb, rpb, shb⟩ : ∃ d, DtV [st, g, l] HD vb d ∧ rpOk d = true ∧ SeqAt.shaped d = true := by
      simp only [List.mem_cons, List.not_mem_nil, or_false] at hvb
      rcases hvb with e | e
      · rw [e]
        exact ⟨.str zn, .str zn, rp_str azn (by omega), shaped_str azn⟩
      · obtain ⟨d, hd, hvd⟩ := hvo
        rw [e]
        exact ⟨d, (hvd.same sE2).keep (kpN kD), odds_rp d hd, odds_shp d hd⟩
    clear hvb hvo sE2 E2a E2b E2c nE2 kD kC kkB SA SB SC
    dsimp only [gName]
    have okD := ok6.kl (Kl.kp S6 kkD)
    -- is it a path
    refine seqJ (fun σ' H' => σ' = [some (.ref a), some (.ref st), some tv, some (.ref sx), some (.ref va), some (.int (0 + (i : Int))), y6, some (.ref x), some (.ref x2), some (.ref D2), some (.ref D3), some (.str pn.1), some q2, some (.str zn), some vb, y15, none, none] ∧ StAt H' st g l ∧ Kp st g l B6 H') (fun D' hD' _ _ _ => ?_) ?_
    · have shP := strs_shaped (pks_asc gt)
      refine ⟨_, rfl, _, rfl, db, (pks gg.tr).map PyData.str, dvb.dp, (DtV.lst (N := []) (kkD _ _ d6 D3a D3b D3c) (by simp) (dtvs_str _)).dp, shb, shP, _, rfl, ?_⟩
      cases hb : ((pks gg.tr).map PyData.str).any fun z => PyData.eqv z db with
      | true => exact iteF (hD' _ _ ⟨rfl, SD, kkD⟩)
      | false =>
        refine iteT ?_
        have hno : NoP K HD gg.tr vb := by
          rcases dvb.strOr (K := K) with ⟨z, rfl, rfl⟩ | ⟨_, hn⟩
          · refine .inr ⟨z, rfl, fun hz => ?_⟩
            have : ((pks gg.tr).map PyData.str).any (fun y => PyData.eqv y (.str z)) = true := List.any_eq_true.mpr ⟨.str z, List.mem_map.mpr ⟨z, hz, rfl⟩, by rw [eqv_strs]; simp⟩
            rw [this] at hb
            cases hb
          · exact .inl hn
        have nopS : ∀ {H' : Hp}, Same HD H' → NoP K H' n1.g.tr vb := fun {H'} s => by
          rw [eg1']
          rcases hno with hno | hno
          · exact .inl (notStr_same dvb s hno)
          · exact .inr hno
        refine ⟨_, rfl, _, rfl, AllZ, M2, x, n1, vb, db, rfl, okD, hp2, nopS (Same.refl _), dvb.free, rpb, fun L1 HE sE nL1 hL1 => ⟨(by show 2 ≤ sizeLine; decide), fun L2 nL2 => ?_⟩⟩
        have sL2 := same_upd (o := .lst [.bl true, .bl true]) nL2
        refine ne_same (sL2 _ _ hL1) upd_same (.cons (.bl _) (.cons (.bl _) .nil)) (by decide +kernel) ⟨_, rfl, iteF ?_⟩
        have sF := sE.trans sL2
        have okF := okD.same sF
        generalize upd HE L2 (.lst [.bl true, .bl true]) = HF at *
        refine ⟨_, rfl, _, rfl, x, n1.dx, _, rfl, (okF.nd x n1 hp2).at_, AllZ, M2, x, n1, vb, rfl, okF, hp2, ?_⟩
        have fin : tIfS (tTest (tOp (rNeD K) (tCall (sp_lput K (C3 K)) [] E0 (tCons (tVar 7) (tCons (tVar 14) (tCons (tCall sp_of [] E0 (tCons (tVar 1) (tCons (tLst (tCons (tC (V.int 1)) (tCons (tC V.non) (tCons (tVar 7) tNil)))) tNil))) tNil)))) (tLst (tCons (tC (V.str "path")) (tCons (tC (V.bl true)) tNil))))) (tRet (tC (V.bl false))) tNext D' [some (.ref a), some (.ref st), some tv, some (.ref sx), some (.ref va), some (.int (0 + (i : Int))), y6, some (.ref x), some (.ref x2), some (.ref D2), some (.ref D3), some (.str pn.1), some q2, some (.str zn), some vb, y15, none, none] HF := by
          refine ⟨_, rfl, _, rfl, _, rfl, _, rfl, (by show 3 ≤ sizeLine; decide), fun E3 nE3 => ?_⟩
          have sE3 := same_upd (o := .lst [.int 1, .non, .ref x]) nE3
          have SF := SD.same sF
          obtain ⟨E3a, E3b, E3c⟩ := SF.ne nE3
          refine ⟨st, g, l, E3, _, rfl, upd_same, E3a, E3b, E3c, by simp, by show 3 ≤ 1000; decide, SF.same sE3, fun vc HG hvc SG kG => ?_⟩
          have kkG : Kp st g l HD HG := (Kp.of (sF.trans sE3)).trans kG
          have dvG := dvb.keep (kpN kkG)
          have okG := okD.kl (Kl.kp SD kkG)
          have nopG : NoP K HG n1.g.tr vb := by
            rw [eg1']
            rcases hno with hno | hno
            · rcases dvG.strOr (K := K) with ⟨z, e1, _⟩ | ⟨_, hn⟩
              · exact absurd e1 (notStr_data dvb hno z)
              · exact .inl hn
            · exact .inr hno
          refine ⟨AllZ, M2, x, n1, vb, vc, rfl, okG, hp2, .inl ⟨.inl nopG, ⟨db, dvG.free, rpb⟩, fun L3 HI sI nL3 hL3 => ⟨(by show 2 ≤ sizeLine; decide), fun L4 nL4 => ?_⟩⟩⟩
          have sL4 := same_upd (o := .lst [.str "path", .bl true]) nL4
          refine ne_same (sL4 _ _ hL3) upd_same (.cons (.str _) (.cons (.bl _) .nil)) (by decide +kernel) ⟨_, rfl, iteF ?_⟩
          exact hD' _ _ ⟨rfl, SG.same (sI.trans sL4), (kkD.trans kkG).trans (Kp.of (sI.trans sL4))⟩
        rcases nopS sF with hn | ⟨z, rfl, hz⟩
        · exact .inr ⟨hn, _, rfl, _, rfl, iteF fin⟩
        · refine .inl ⟨z, rfl, _, rfl, _, rfl, ?_⟩
          rw [decide_eq_false hz]
          exact iteF fin
    intro σ' H' hR
    obtain ⟨rfl, SH, kkH⟩ := hR
    clear dvb rpb shb okD SD kkD
    have okH := ok6.kl (Kl.kp S6 kkH)
    -- the root
    refine ⟨_, rfl, _, rfl, _, rfl, _, rfl, (by show 3 ≤ sizeLine; decide), fun E4 nE4 => ?_⟩
    have sE4 := same_upd (o := .lst [.int 1, .ref x, .ref x2]) nE4
    obtain ⟨E4a, E4b, E4c⟩ := SH.ne nE4
    refine ⟨st, g, l, E4, _, rfl, upd_same, E4a, E4b, E4c, by simp, by show 3 ≤ 1000; decide, SH.same sE4, fun vd HI hvd SI kI => ?_⟩
    have kkI := (kkH.trans (Kp.of sE4)).trans kI
    have okI := ok6.kl (Kl.kp S6 kkI)
    refine ⟨AllZ, M2, x, n1, _, vd, rfl, okI, hp2, .inl ⟨.inr rfl, ⟨.str ".", .str ".", by decide +kernel⟩, fun L5 HJ sJ nL5 hL5 => ⟨(by show 2 ≤ sizeLine; decide), fun L6 nL6 => ?_⟩⟩⟩
    have sL6 := same_upd (o := .lst [.str "path", .bl true]) nL6
    refine ne_same (sL6 _ _ hL5) upd_same (.cons (.str _) (.cons (.bl _) .nil)) (by decide +kernel) ⟨_, rfl, iteF ?_⟩
    have sIK := sJ.trans sL6
    have SK := SI.same sIK
    have kkK := kkI.trans (Kp.of sIK)
    generalize upd HJ L6 (.lst [.str "path", .bl true]) = HK at *
    clear sIK sL6 hL5 nL6 nL5 sJ okI kkI kI SI hvd sE4 E4a E4b E4c nE4 okH kkH SH
    -- what fits nowhere
    refine ⟨_, rfl, Nat.zero_le _, fun b1 nb1 => ?_⟩
    have t1 := same_upd (o := .tup []) nb1
    have f1 : (upd HK b1 (.tup [])) b1 = some (.tup []) := upd_same
    generalize upd HK b1 (.tup []) = G1 at *
    refine ⟨(by show 1 ≤ sizeLine; decide), fun b2 nb2 => ?_⟩
    have t2 := same_upd (o := .tup [.int 1]) nb2
    have f2 : (upd G1 b2 (.tup [.int 1])) b2 = some (.tup [.int 1]) := upd_same
    generalize upd G1 b2 (.tup [.int 1]) = G2 at *
    refine ⟨(by show 1 ≤ sizeLine; decide), fun b3 nb3 => ?_⟩
    have SG2 := SK.same (t1.trans t2)
    have ne3 := SG2.ne nb3
    have t3 := same_upd (o := .lst [.int 2]) nb3
    have f3 : (upd G2 b3 (.lst [.int 2])) b3 = some (.lst [.int 2]) := upd_same
    generalize upd G2 b3 (.lst [.int 2]) = G3 at *
    refine ⟨_, rfl, (by show 7 ≤ sizeLine; decide), fun b4 nb4 => ?_⟩
    have SG3 := SG2.same t3
    obtain ⟨m1, m2, m3⟩ := SG3.ne nb4
    have t4 := same_upd (o := .lst [.non, .bl true, .str "1", .ref b1, .ref b2, .ref b3, .ref x2]) nb4
    have SG4 := SG3.same t4
    refine ⟨st, g, l, b4, _, rfl, upd_same, m1, m2, m3, by simp, by show 7 ≤ 1000; decide, SG4, fun v6 HL hv6 SL kL => ?_⟩
    have kkL := (kkK.trans (Kp.of (((t1.trans t2).trans t3).trans t4))).trans kL
    have val6 : (∃ d ∈ odd6, DtV [st, g, l] HL v6 d) ∨ v6 = .ref x2 := by
      have h : v6 ∈ [V.non, .bl true, .str "1", .ref b1, .ref b2, .ref b3] ∨ v6 = .ref x2 := by
        simp only [List.mem_cons, List.not_mem_nil, or_false] at hv6 ⊢
        rcases hv6 with e | e | e | e | e | e | e <;> simp [e]
      rcases h with h | h
      · have D6 : DtVs [st, g, l] (upd G3 b4 (.lst [.non, .bl true, .str "1", .ref b1, .ref b2, .ref b3, .ref x2])) [.non, .bl true, .str "1", .ref b1, .ref b2, .ref b3] odd6 :=
          .cons .non (.cons (.bl _) (.cons (.str _) (.cons (dtT SG4 (t4 _ _ (t3 _ _ (t2 _ _ f1))) .nil) (.cons (dtT SG4 (t4 _ _ (t3 _ _ f2)) (.cons (.int 1) .nil)) (.cons (dtL (t4 _ _ f3) ne3 (.cons (.int 2) .nil)) .nil)))))
        obtain ⟨d, h1, h2⟩ := D6.mem h
        exact .inl ⟨d, h1, h2.keep (kpN kL)⟩
      · exact .inr h
    clear t1 t2 t3 t4 f1 f2 f3 nb1 nb2 nb3 nb4 ne3 m1 m2 m3 SG2 SG3 SG4 kL hv6 SK kkK
    have okL := ok6.kl (Kl.kp S6 kkL)
    dsimp only [gName]
    refine seqJ (fun σ' H' => ∃ v15, σ' = [some (.ref a), some (.ref st), some tv, some (.ref sx), some (.ref va), some (.int (0 + (i : Int))), y6, some (.ref x), some (.ref x2), some (.ref D2), some (.ref D3), some (.str pn.1), some q2, some (.str zn), some vb, some v15, none, none] ∧ StAt H' st g l ∧ Kp st g l B6 H' ∧ (pn.1 ≠ "." → BadVal H' M2 pn.2 v15 ∧ ∀ d, DtV [] H' v15 d → rpOk d = true)) (fun D' hD' _ _ _ => ?_) ?_
    · refine ⟨_, rfl, Nat.zero_le _, fun e ne => ?_⟩
      have se := same_upd (o := .tup []) ne
      have tqL := (c3.tups (kp_tups S6 kkL)).same se
      refine ⟨trD pn.2, .tuple [], tr_dp tqL, .tup (.inl (.inl upd_same)) .nil, trD_shaped gpn, by decide +kernel, _, rfl, ?_⟩
      rw [trD_nil]
      have val6' : (∃ d ∈ odd6, DtV [st, g, l] (upd HL e (.tup [])) v6 d) ∨ v6 = .ref x2 := val6.imp (fun ⟨d, h1, h2⟩ => ⟨d, h1, h2.same se⟩) fun h => h
      have SM := SL.same se
      have kkM := kkL.trans (Kp.of se)
      have okM := okL.same se
      generalize upd HL e (.tup []) = HM at *
      cases eb : pn.2.isNil with
      | true =>
        refine iteF ?_
        refine hD' _ _ ⟨v6, rfl, SM, kkM, fun _ => ⟨.inl ⟨eb, ?_⟩, fun d hd => ?_⟩⟩
        · rcases val6' with ⟨d, h1, h2⟩ | h
          · exact .inl ⟨d, h2.free, (odd6_ok d h1).1⟩
          · exact .inr ⟨x2, n2, h, hq2⟩
        · rcases val6' with ⟨d', h1, h2⟩ | h
          · rw [dt_one hd h2.free]; exact (odd6_ok d' h1).2
          · rw [h] at hd
            have := (okM.nd x2 n2 hq2).at_
            cases hd with
            | lst e1 => rw [this] at e1; cases e1
            | tup e1 => rw [this] at e1; cases e1
      | false =>
        refine iteT ?_
        refine ⟨_, rfl, rfl, _, rfl, ?_⟩
        by_cases ep : pn.1 = "."
        · refine iteNN (by rw [ep]) ?_
          exact hD' _ _ ⟨v6, rfl, SM, kkM, fun z => absurd ep z⟩
        refine iteNY (fun z => ep (V.str.inj z)) ?_
        -- the part there
        have hpw : pn ∈ (wpaths gg.tr).map (fun m => (ptext m.1, m.2)) := by rw [wpaths_text]; exact hpn
        obtain ⟨m, hm, em⟩ := List.mem_map.mp hpw
        have em1 : ptext m.1 = pn.1 := congrArg Prod.fst em
        have em2 : m.2 = pn.2 := congrArg Prod.snd em
        have hm1 : m ∈ wpaths n1.g.tr := by rw [eg1']; exact hm
        refine ⟨_, rfl, _, rfl, _, rfl, _, rfl, x, n1.dx, _, rfl, (okM.nd x n1 hp2).at_, AllZ, M2, x, n1, _, rfl, okM, hp2, .inl ⟨m, hm1, by rw [em1], fun c HN wk fit sN => ?_⟩⟩
        rw [em2] at fit
        have depm := wp_depth gt hm
        cases c with
        | int j =>
          have fit : pn.2.isNil = true := fit
          rw [eb] at fit
          cases fit
        | part r =>
          obtain ⟨_, nr, hr', et⟩ := fit
          have okN := okM.same sN
          have Nr := okN.nd r nr hr'
          have dr := (good_has Nr.gd).1
          refine ⟨r, nr.dx, _, rfl, Nr.at_, AllZ, M2, r, nr, rfl, okN, hr', by omega, fun D5 HO sO nD5 hD5 => ⟨_, rfl, (by show 4 ≤ sizeLine; decide), fun b5 nb5 => ?_⟩⟩
          have sMO := sN.trans sO
          have SO := SM.same sMO
          obtain ⟨m1, m2, m3⟩ := SO.ne nb5
          have t5 := same_upd (o := .lst [v6, .int 0, .ref D5, .ref x]) nb5
          have SP := SO.same t5
          refine ⟨st, g, l, b5, _, rfl, upd_same, m1, m2, m3, by simp, by show 4 ≤ 1000; decide, SP, fun v7 HR hv7 SR kR => ?_⟩
          have kkR := (kkM.trans (Kp.of (sMO.trans t5))).trans kR
          have okR := ok6.kl (Kl.kp S6 kkR)
          have kMR : Kp st g l HM HR := (Kp.of (sMO.trans t5)).trans kR
          have dnum : ∀ y ∈ content M2 r, Num y := fun y hy => hnum y (by rw [← con2]; exact content_sub okM hp2 wk y hy)
          have clen : (content M2 r).length ≤ 6 := by rw [content_len okM hr']; have := Nr.gd.2.2; omega
          have ne_x : n1.g.tr ≠ pn.2 := fun z => by
            have : m.1 ≠ [] := fun y => ep (by rw [← em1, y]; rfl)
            have l1 : 0 < m.1.length := List.length_pos_iff.mpr this
            rw [eg1'] at z
            rw [em2, ← z] at depm
            omega
          have ne_z : n2.g.tr ≠ pn.2 := fun z => by
            have : m.1 ≠ [] := fun y => ep (by rw [← em1, y]; rfl)
            have l1 : 0 < m.1.length := List.length_pos_iff.mpr this
            rw [en2] at z
            rw [em2, ← z] at depm
            have : zTree.depth = 3 := by decide
            omega
          have part_no : ∀ {y : Addr} {ny : Nd}, M2 y = some ny → ∀ d, ¬ DtV [] HR (.ref y) d := fun {y ny} hy d hd => by
            have := (okR.nd y ny hy).at_
            cases hd with
            | lst e1 => rw [this] at e1; cases e1
            | tup e1 => rw [this] at e1; cases e1
          refine hD' _ _ ⟨v7, rfl, SR, kkR, fun _ => ?_⟩
          simp only [List.mem_cons, List.not_mem_nil, or_false] at hv7
          rcases hv7 with e | e | e | e
          · rw [e]
            rcases val6' with ⟨d, h1, h2⟩ | h
            · have h3 := h2.keep (kpN kMR)
              exact ⟨.inr ⟨eb, .inl ⟨d, h3.free⟩⟩, fun d' hd' => by rw [dt_one hd' h3.free]; exact (odd6_ok d h1).2⟩
            · rw [h]
              exact ⟨.inr ⟨eb, .inr ⟨x2, n2, rfl, hq2, ne_z⟩⟩, fun d hd => absurd hd (part_no hq2 d)⟩
          · rw [e]
            exact ⟨.inr ⟨eb, .inl ⟨.int 0, .int 0⟩⟩, fun d' hd' => by rw [dt_one hd' (.int 0)]; decide +kernel⟩
          · rw [e]
            have hD7 : HR D5 = some (.tup ((content M2 r).map V.int)) := kp_tups SP kR _ _ (t5 _ _ hD5)
            have dd : DtV [] HR (.ref D5) (intsD (content M2 r)) := .tup hD7 (by simp) (dtvs_int _)
            exact ⟨.inr ⟨eb, .inl ⟨_, dd⟩⟩, fun d' hd' => by rw [dt_one hd' dd]; exact (rb_ints dnum clen).rp (by omega) (by omega)⟩
          · rw [e]
            exact ⟨.inr ⟨eb, .inr ⟨x, n1, rfl, hp2, ne_x⟩⟩, fun d hd => absurd hd (part_no hp2 d)⟩
    intro σ' H' hR
    obtain ⟨v15, rfl, SS, kkS, hbad⟩ := hR
    clear val6 okL kkL SL
    have okS := ok6.kl (Kl.kp S6 kkS)
    -- it is refused
    refine seqJ (fun σ' H' => σ' = [some (.ref a), some (.ref st), some tv, some (.ref sx), some (.ref va), some (.int (0 + (i : Int))), y6, some (.ref x), some (.ref x2), some (.ref D2), some (.ref D3), some (.str pn.1), some q2, some (.str zn), some vb, some v15, none, none] ∧ StAt H' st g l ∧ Kp st g l B6 H') (fun D' hD' _ _ _ => ?_) ?_
    · refine ⟨_, rfl, rfl, _, rfl, ?_⟩
      by_cases ep : pn.1 = "."
      · exact iteNN (by rw [ep]) (hD' _ _ ⟨rfl, SS, kkS⟩)
      refine iteNY (fun z => ep (V.str.inj z)) ?_
      obtain ⟨hb1, hb2⟩ := hbad ep
      have hpw : pn ∈ (wpaths gg.tr).map (fun m => (ptext m.1, m.2)) := by rw [wpaths_text]; exact hpn
      obtain ⟨m, hm, em⟩ := List.mem_map.mp hpw
      have em1 : ptext m.1 = pn.1 := congrArg Prod.fst em
      have em2 : m.2 = pn.2 := congrArg Prod.snd em
      have hm1 : m ∈ wpaths n1.g.tr := by rw [eg1']; exact hm
      refine ⟨_, rfl, _, rfl, _, rfl, AllZ, M2, x, n1, _, v15, rfl, okS, hp2, .inr ⟨m, hm1, fun y => ep (by rw [← em1, y]; rfl), by rw [em1], .inl ⟨by rw [em2]; exact hb1, hb2, fun L7 HT sT nL7 hL7 => ⟨(by show 2 ≤ sizeLine; decide), fun L8 nL8 => ?_⟩⟩⟩⟩
      have sL8 := same_upd (o := .lst [.str "value", .bl true]) nL8
      refine ne_same (sL8 _ _ hL7) upd_same (.cons (.str _) (.cons (.bl _) .nil)) (by decide +kernel) ⟨_, rfl, iteF ?_⟩
      exact hD' _ _ ⟨rfl, SS.same (sT.trans sL8), kkS.trans (Kp.of (sT.trans sL8))⟩
    intro σ' H' hR
    obtain ⟨rfl, SU, kkU⟩ := hR
    have okU := ok6.kl (Kl.kp S6 kkU)
    have vaU := kp_tups S6 kkU _ _ va6
    have NU := okU.nd x n1 hp2
    refine ⟨_, rfl, x, n1.dx, _, rfl, NU.at_, AllZ, M2, x, n1, rfl, okU, hp2, by rw [eg1']; omega, fun D9 HV sV nD9 hD9 => ?_⟩
    rw [con2] at hD9
    refine ⟨_, rfl, intsD is, intsD is, dp_ints hD9, dp_ints (sV _ _ vaU), ints_shaped is, ints_shaped is, _, rfl, ?_⟩
    rw [ints_eqv, decide_eq_true rfl]
    refine iteF ?_
    exact ⟨_, _, _, _, _, _, rfl, SU.same sV, kkU.trans (Kp.of sV)⟩
  obtain ⟨y5, y11, y12, y13, y14, y15, rfl, SW, kkW⟩ := pv
  have okW := ok6.kl (Kl.kp S6 kkW)
  have vaW := kp_tups S6 kkW _ _ va6
  have hDW := kkW _ _ hD6 D2a D2b D2c
  have fW : FsAt HH (.ofFields (paths gg.tr)) ps := FsAt.tups (t := .ofFields (paths gg.tr)) (kp_tups S6 kkW) f6
  clear ok6 va6 hD6 f6 d6 S6 kkW
  obtain ⟨p0, q0, qs, eps, _, _, f7⟩ := fW
  have f7 : FsAt HH (.ofFields (fp gg.tr)) qs := f7
  have lqs : qs.length = (fp gg.tr).length := lnF f7
  refine ⟨_, rfl, 1, rfl, D2, _, rfl, .inl (.inl hDW), fun D8 nD8 => ?_⟩
  have ecut : cutV ps (some 1) none = qs := by
    have := cut_drop (us := ps) (i := 1) (by rw [eps]; simp)
    rw [show (some (1 : Int)) = some ((1 : Nat) : Int) from rfl, this, eps]
    rfl
  rw [ecut]
  have s8 := same_upd (o := .lst qs) nD8
  have hD8 : (upd HH D8 (.lst qs)) D8 = some (.lst qs) := upd_same
  have ok8 := okW.same s8
  have va8 := s8 _ _ vaW
  have f8 : FsAt (upd HH D8 (.lst qs)) (.ofFields (fp gg.tr)) qs := f7.same s8
  generalize upd HH D8 (.lst qs) = B7 at *
  clear okW vaW hDW f7 s8
  refine ⟨D8, rfl, ⟨_, .inl (.inl hD8)⟩, ?_⟩
  have lwf : (wfp gg.tr).length = (fp gg.tr).length := by rw [← wfp_text, List.length_map]
  refine for_list (K := K) (a := D8) (xs := qs) (fun k σ HX => ∃ y11 y12 N nx, σ = [some (.ref a), some (.ref st), some tv, some (.ref sx), some (.ref va), y5, y6, some (.ref x), some (.ref x2), some (.ref D2), some (.ref D3), y11, y12, y13, y14, y15, none, none] ∧ Kd B7 HX ∧ PgOk (C3 K) AllZ HX N ∧ N x = some nx ∧ nx.g.tr = gg.tr ∧ ∀ (j : Nat) m, j < k → (wfp gg.tr)[j]? = some m → m.2.isNil = true → walk N (.part x) m.1 = some (.int 7)) ?_ (fun k σ HX _ pv => ?_) (fun k y σ HX hy pv => ?_) (fun σ HX pv => ?_)
  · exact ⟨_, _, M2, n1, rfl, Kd.refl _, ok8, hp2, eg1', fun j m h => absurd h (Nat.not_lt_zero _)⟩
  · obtain ⟨_, _, _, _, _, kd, _⟩ := pv
    exact .inl (.inl (kd _ _ hD8 (fun _ z => nomatch z)))
  · obtain ⟨y11, y12, N, nx, rfl, kd, okX, hx, egx, seven⟩ := pv
    have hk : k < (fp gg.tr).length := by
      rw [← lqs]
      exact (List.getElem?_eq_some_iff.mp hy).1
    obtain ⟨m, hm⟩ : ∃ m, (wfp gg.tr)[k]? = some m := ⟨_, List.getElem?_eq_getElem (by rw [lwf]; exact hk)⟩
    have hmm : m ∈ wpaths nx.g.tr := by rw [egx]; exact List.mem_cons_of_mem _ (List.mem_of_getElem? hm)
    have hfk : (fp gg.tr)[k]? = some (ptext m.1, m.2) := by rw [← wfp_text, List.getElem?_map, hm]; rfl
    obtain ⟨pp, q2, c1, c2, c3⟩ := FsAt.get (t := .ofFields (fp gg.tr)) f8 (by rw [Tr.fields_of]; exact hfk)
    rw [c1] at hy
    cases hy
    have kt : ∀ c zs, B7 c = some (.tup zs) → HX c = some (.tup zs) := fun c zs e => kd _ _ e (fun _ z => nomatch z)
    have mne : m.1 ≠ [] := fun z => by
      obtain ⟨f, _, m', _, e⟩ := wfp_mem (List.mem_of_getElem? hm)
      rw [e] at z
      cases z
    have gm : good m.2 := by
      have : good nx.g.tr := (okX.nd x nx hx).gd
      exact wp_good this hmm
    obtain ⟨md, _, _⟩ := good_has gm
    refine ⟨pp, _, rfl, .inl (.inl (kt _ _ c2)), rfl, _, _, rfl, _, _, rfl, rfl, ?_⟩
    obtain ⟨bq, us, rfl, hbq, hfb⟩ := c3.tups kt
    refine ⟨_, rfl, _, rfl, _, rfl, Nat.zero_le _, fun e ne => ?_⟩
    have se := same_upd (o := .tup []) ne
    refine ⟨bq, e, us, rfl, rfl, .inl (.inl (se _ _ hbq)), .inl (.inl upd_same), _, rfl, ?_⟩
    rw [hfb.nil_iff]
    have okE := okX.same se
    have kdE := kd.trans (Kd.of se)
    generalize upd HX e (.tup []) = HE at *
    show if m.2.isNil = true then _ else _
    cases eb : m.2.isNil with
    | true =>
      refine iteT ?_
      refine ⟨AllZ, N, x, nx, _, .int 7, rfl, okE, hx, .inr ⟨m, hmm, mne, rfl, .inr ⟨.int 7, rfl, eb, fun D H1 ds wd q nq s1 nD hD em wk hq hw => ?_⟩⟩⟩
      have ok1 := okE.same s1
      have hcd := (ok1.nd q nq hq).cells
      have Dcd : D ≠ nq.cd := fun z => by rw [z, hcd] at hD; cases hD
      refine ⟨false, .inl ⟨_, .inl (.inl (show (upd H1 nq.cd _) D = some (.lst []) by rw [upd_ne Dcd]; exact hD)), rfl⟩, iteF ?_⟩
      obtain ⟨nx', e1, e2, _⟩ := setN_of (q := q) (w := wd) (c := .int 7) hx
      refine ⟨_, _, setN N q wd (.int 7), nx', rfl, (kdE.trans (Kd.of s1)).trans (Kd.put hcd), ok1.set hq hw (by exact eb), e1, by rw [e2]; exact egx, fun j mj hj hmj hn => ?_⟩
      by_cases ej : j = k
      · rw [ej, hm] at hmj
        cases hmj
        rw [em]
        exact walk_target ok1 hq hw eb wk
      · have old := seven j mj (by omega) hmj hn
        have hmw : mj ∈ wpaths nx.g.tr := by rw [egx]; exact List.mem_cons_of_mem _ (List.mem_of_getElem? hmj)
        exact walk_int ok1 hq hw eb mj.1 (t := nx.g.tr) (v := mj.2) ⟨(ok1.nd x nx hx).rc, nx, hx, rfl⟩ hmw hn old
    | false =>
      refine iteF ?_
      refine ⟨_, rfl, _, rfl, x, nx.dx, _, rfl, (okE.nd x nx hx).at_, AllZ, N, x, nx, _, rfl, okE, hx, .inl ⟨m, hmm, rfl, fun c HY wk0 fit sY => ?_⟩⟩
      cases c with
      | int j =>
        have fit : m.2.isNil = true := fit
        rw [eb] at fit
        cases fit
      | part r =>
        obtain ⟨_, nr, hr', et⟩ := fit
        have okY := okE.same sY
        refine ⟨r, nr.dx, _, rfl, (okY.nd r nr hr').at_, rfl, AllZ, N, r, nr, rfl, okY, hr', fun H1 H2 N' y sH mdy => ?_⟩
        have hx' := mdy.old _ _ hx
        obtain ⟨ny, hy1, _, hy2⟩ := mdy.at_
        have fity : Fits N' m.2 (.part y) := ⟨eb, ny, hy1, by rw [hy2]; exact et⟩
        refine ⟨AllZ, N', x, nx, _, .ref y, rfl, mdy.ok, hx', .inr ⟨m, hmm, mne, rfl, .inr ⟨.part y, rfl, fity, fun D H3 ds wd q nq s3 nD hD em wk hq hw => ?_⟩⟩⟩
        have ok3 := mdy.ok.same s3
        have N3 := ok3.nd q nq hq
        have hcd := N3.cells
        have Dcd : D ≠ nq.cd := fun z => by rw [z, hcd] at hD; cases hD
        refine ⟨false, .inl ⟨_, .inl (.inl (show (upd H3 nq.cd _) D = some (.lst []) by rw [upd_ne Dcd]; exact hD)), rfl⟩, iteF ?_⟩
        obtain ⟨nx', e1, e2, _⟩ := setN_of (q := q) (w := wd) (c := .part y) hx'
        refine ⟨_, _, setN N' q wd (.part y), nx', rfl, ((((kdE.trans (Kd.of sY)).trans (Kd.of sH)).trans (Kd.of mdy.same)).trans (Kd.of s3)).trans (Kd.put hcd), ok3.set hq hw fity, e1, by rw [e2]; exact egx, fun j mj hj hmj hn => ?_⟩
        have ej : j ≠ k := fun z => by
          rw [z, hm] at hmj
          cases hmj
          rw [eb] at hn
          cases hn
        have old := walk_mono mdy.old _ (seven j mj (by omega) hmj hn)
        have hmw : mj ∈ wpaths nx.g.tr := by rw [egx]; exact List.mem_cons_of_mem _ (List.mem_of_getElem? hmj)
        obtain ⟨c0, k1, k2⟩ := N3.cs.mem hw
        have l0 := lookup_at N3.nodup k1
        have w0 := walk_snoc hq l0 wk
        have w1 := walk_mono mdy.old _ wk0
        rw [em, w0] at w1
        have ec0 : c0 = .part r := Option.some.inj w1
        subst ec0
        have fitr : Fits N' m.2 (.part r) := ⟨eb, nr, mdy.old _ _ hr', et⟩
        have ceq : cellC N' 4 (.part y) = cellC N' 4 (.part r) := by
          show content N' y = cont N' 4 r
          rw [mdy.con, cont_mono okY mdy.old 4 hr']
        rw [walk_copy ok3 hq hw l0 fity (walk_eq ok3 fity fitr (by omega) ceq) mj.1 (t := nx.g.tr) (v := mj.2) (c := .part x) ⟨(ok3.nd x nx hx').rc, nx, hx', rfl⟩ hmw hn]
        exact old
  · obtain ⟨y11, y12, N, nx, rfl, kd, okX, hx, egx, seven⟩ := pv
    have NX := okX.nd x nx hx
    have conx : content N x = List.replicate gg.tr.plains 7 := by
      rw [← egx]
      refine content_all okX hx fun m hm hn => ?_
      rcases List.mem_cons.mp hm with e | hm
      · rw [e] at hn
        have hn : nx.g.tr.isNil = true := hn
        rw [NX.rc] at hn
        cases hn
      · rw [egx] at hm
        obtain ⟨j, hj⟩ := List.getElem?_of_mem hm
        refine seven j m ?_ hj hn
        have := (List.getElem?_eq_some_iff.mp hj).1
        rw [lqs, ← lwf]
        exact this
    have vaX := kd _ _ va8 (fun _ z => nomatch z)
    refine ⟨_, rfl, x, nx.dx, _, rfl, NX.at_, AllZ, N, x, nx, rfl, okX, hx, by rw [egx]; omega, fun D10 HZ sZ nD10 hD10 => ?_⟩
    rw [conx] at hD10
    refine ⟨_, rfl, va, rfl, ⟨_, .inl (.inl (sZ _ _ vaX))⟩, fun D11 nD11 => ?_⟩
    refine lcM (walk_tup (xs := is.map V.int)) is (by rw [List.length_map]) (fun _ => some (.int 7)) (fun H s => Same.tup s (.inl (.inl (sZ _ _ vaX)))) (sz4 (by rw [List.length_map]; omega)) nD11 (fun j y m H' hx' hm' s' => ?_) (fun HY sY dY => ?_)
    · intro Q1 Q0 h1 h0
      exact ⟨rfl, h1 _ _ rfl (Same.refl _)⟩
    have e7 : (is.filterMap fun _ => some (V.int 7)) = (List.replicate gg.tr.plains 7).map V.int := by
      rw [List.filterMap_eq_map', ← lis, List.map_replicate]
      exact List.map_const' ..
    rw [e7] at dY
    refine ⟨D11, _, rfl, .inl ⟨.inl (.inl dY), fun T1 nT1 => ?_⟩⟩
    have sT := same_upd (o := .tup ((List.replicate gg.tr.plains 7).map V.int)) nT1
    refine ⟨intsD (List.replicate gg.tr.plains 7), intsD (List.replicate gg.tr.plains 7), dp_ints (sT _ _ (sY _ _ hD10)), dp_ints upd_same, ints_shaped _, ints_shaped _, ?_⟩
    rw [ints_eqv, decide_eq_true rfl]
    exact q _
end
end Lx

namespace Lx
open PySem PySem.Spec PyProof.Rows L2 Ub
theorem run (w : World) : HandSHeadRun.RunEq R (PySem.W.view R.prog [47]) hk ob 12000 loose w := by
  intro os
  kernel_rfl
end Lx

namespace Lx
open PySem PySem.Spec PyProof.Rows L2 Ub Ur Ug Ue Up Uo Ve Va Vk Wb Pt
theorem facts {P : Program} {w : World} {K : PySem.W.Frag} {h : Heap} {mg : Str → Option Value} {f : Addr} (X : K.In h) (G : h.Ns mainGlobals mg) (hfa : mg ("law" : Str) = some (.ref f)) (c : Says w h K) :
    ∃ fd : FuncData, (∀ (s : Shared) (v : Value), BindsTo s fd ⟨[v], []⟩ [("_law_script", v)]) ∧ ∀ base : Heap, K.In base → base.Ns mainGlobals mg → FnG P w K mg base CX0 19 f fd ["_law_script"] (sp_law K) := by
  have T := tx_of X G c
  obtain ⟨fd_BadShape___init__, F_BadShape___init__⟩ := df_BadShape___init__ c
  obtain ⟨fd_BadPath___init__, F_BadPath___init__⟩ := df_BadPath___init__ c
  obtain ⟨fd_BadValues___init__, F_BadValues___init__⟩ := df_BadValues___init__ c
  obtain ⟨fd_BadValue___init__, F_BadValue___init__⟩ := df_BadValue___init__ c
  obtain ⟨fd_law_start, F_law_start⟩ := df_law_start c
  obtain ⟨fd_law_draw, F_law_draw⟩ := df_law_draw c
  obtain ⟨fd_law_of, F_law_of⟩ := df_law_of c
  obtain ⟨fd_law_word, F_law_word⟩ := df_law_word c
  obtain ⟨fd_is_word, F_is_word⟩ := df_is_word c
  obtain ⟨fd_records_of, F_records_of⟩ := df_records_of c
  obtain ⟨fd_plains_of, F_plains_of⟩ := df_plains_of c
  obtain ⟨fd_text_of, F_text_of⟩ := df_text_of c
  obtain ⟨fd_scan_word, F_scan_word⟩ := df_scan_word c
  obtain ⟨fd_scan_shape, F_scan_shape⟩ := df_scan_shape c
  obtain ⟨fd_is_bounded, F_is_bounded⟩ := df_is_bounded c
  obtain ⟨fd_tree_of, F_tree_of⟩ := df_tree_of c
  obtain ⟨fd_Shape___init__, F_Shape___init__⟩ := df_Shape___init__ c
  obtain ⟨fd_law_records, F_law_records⟩ := df_law_records c
  obtain ⟨fd_law_plains, F_law_plains⟩ := df_law_plains c
  obtain ⟨fd_law_depth, F_law_depth⟩ := df_law_depth c
  obtain ⟨fd_law_text, F_law_text⟩ := df_law_text c
  obtain ⟨fd_law_tree, F_law_tree⟩ := df_law_tree c
  obtain ⟨fd_law_made_shape, F_law_made_shape⟩ := df_law_made_shape c
  obtain ⟨fd_law_odd, F_law_odd⟩ := df_law_odd c
  obtain ⟨fd_law_paths, F_law_paths⟩ := df_law_paths c
  obtain ⟨fd_Shape___getitem__, F_Shape___getitem__⟩ := df_Shape___getitem__ c
  obtain ⟨fd_Shape___contains__, F_Shape___contains__⟩ := df_Shape___contains__ c
  obtain ⟨fd_Shape___eq__, F_Shape___eq__⟩ := df_Shape___eq__ c
  obtain ⟨fd_Shape_is_plain, F_Shape_is_plain⟩ := df_Shape_is_plain c
  obtain ⟨fd_Shape_plains, F_Shape_plains⟩ := df_Shape_plains c
  obtain ⟨fd_words_of, F_words_of⟩ := df_words_of c
  obtain ⟨fd_is_whole, F_is_whole⟩ := df_is_whole c
  obtain ⟨fd_are_wholes, F_are_wholes⟩ := df_are_wholes c
  obtain ⟨fd_Part___init__, F_Part___init__⟩ := df_Part___init__ c
  obtain ⟨fd_Part_content, F_Part_content⟩ := df_Part_content c
  obtain ⟨fd_Part___getitem__, F_Part___getitem__⟩ := df_Part___getitem__ c
  obtain ⟨fd_Part___contains__, F_Part___contains__⟩ := df_Part___contains__ c
  obtain ⟨fd_Part___setitem__, F_Part___setitem__⟩ := df_Part___setitem__ c
  obtain ⟨fd_Part_copied, F_Part_copied⟩ := df_Part_copied c
  obtain ⟨fd_law_number, F_law_number⟩ := df_law_number c
  obtain ⟨fd_law_made, F_law_made⟩ := df_law_made c
  obtain ⟨fd_law_item, F_law_item⟩ := df_law_item c
  obtain ⟨fd_law_put, F_law_put⟩ := df_law_put c
  obtain ⟨fd_law_wrong_values, F_law_wrong_values⟩ := df_law_wrong_values c
  obtain ⟨fd_law, F_law⟩ := df_law c
  have e := hfa.symm.trans T.g_law
  cases e
  have b := FunD.bindsA (ps := ["_law_script"]) F_law fun _ _ _ _ _ _ us hl => match us, hl with | [_], _ => rfl
  refine ⟨fd_law, fun s v => b s [v] rfl, fun base _ _ => ?_⟩
  have x_BadShape : CalX P w K mg base 1 "BadShape" (He.ga K "BadShape") "text" := x_BadShape F_BadShape___init__ T
  have x_BadPath : CalX P w K mg base 1 "BadPath" (He.ga K "BadPath") "path" := x_BadPath F_BadPath___init__ T
  have x_BadValues : CalX P w K mg base 1 "BadValues" (He.ga K "BadValues") "given" := x_BadValues F_BadValues___init__ T
  have x_BadValue : CalX P w K mg base 1 "BadValue" (He.ga K "BadValue") "value" := x_BadValue F_BadValue___init__ T
  have c_law_start : Cal P w K mg base 1 "_law_start" ["_law_script"] (sp_start K) := ⟨_, fd_law_start, ok_law_start F_law_start T , T.g__law_start, F_law_start.kp, F_law_start.bindsN fun _ _ _ _ _ _ us hl => match us, hl with | [_], _ => rfl⟩
  have c_law_draw : Cal P w K mg base 1 "_law_draw" ["_law_state", "_law_many"] sp_draw := ⟨_, fd_law_draw, ok_law_draw F_law_draw T , T.g__law_draw, F_law_draw.kp, F_law_draw.bindsN fun _ _ _ _ _ _ us hl => match us, hl with | [_, _], _ => rfl⟩
  have c_law_of : Cal P w K mg base 2 "_law_of" ["_law_state", "_law_some"] sp_of := ⟨_, fd_law_of, ok_law_of F_law_of T c_law_draw, T.g__law_of, F_law_of.kp, F_law_of.bindsN fun _ _ _ _ _ _ us hl => match us, hl with | [_, _], _ => rfl⟩
  have c_law_word : Cal P w K mg base 2 "_law_word" ["_law_state", "_law_taken"] sp_word := ⟨_, fd_law_word, ok_law_word F_law_word T c_law_draw, T.g__law_word, F_law_word.kp, F_law_word.bindsN fun _ _ _ _ _ _ us hl => match us, hl with | [_, _], _ => rfl⟩
  have c_is_word : Cal P w K mg base 1 "is_word" ["text"] (sp_is_word K) := ⟨_, fd_is_word, ok_is_word F_is_word T , T.g_is_word, F_is_word.kp, F_is_word.bindsN fun _ _ _ _ _ _ us hl => match us, hl with | [_], _ => rfl⟩
  have b_records_of : Binds K fd_records_of ["tree"] [] := F_records_of.bindsN fun _ _ _ _ _ _ us hl => match us, hl with | [_], _ => rfl
  have c_records_of : Cal P w K mg base 4 "records_of" ["tree"] (sp_tree 4 fun t => .int (t.recs : Nat)) := ⟨_, fd_records_of, ok_records_of F_records_of T T.g_records_of b_records_of 4, T.g_records_of, F_records_of.kp, b_records_of⟩
  have b_plains_of : Binds K fd_plains_of ["tree"] [] := F_plains_of.bindsN fun _ _ _ _ _ _ us hl => match us, hl with | [_], _ => rfl
  have c_plains_of : Cal P w K mg base 4 "plains_of" ["tree"] (sp_tree 4 fun t => .int (t.plains : Nat)) := ⟨_, fd_plains_of, ok_plains_of F_plains_of T T.g_plains_of b_plains_of 4, T.g_plains_of, F_plains_of.kp, b_plains_of⟩
  have b_text_of : Binds K fd_text_of ["tree"] [] := F_text_of.bindsN fun _ _ _ _ _ _ us hl => match us, hl with | [_], _ => rfl
  have c_text_of : Cal P w K mg base 4 "text_of" ["tree"] (sp_tree 4 fun t => .str t.text) := ⟨_, fd_text_of, ok_text_of F_text_of T T.g_text_of b_text_of 4, T.g_text_of, F_text_of.kp, b_text_of⟩
  have c_scan_word : Cal P w K mg base 2 "scan_word" ["text", "at"] sp_scan_word := ⟨_, fd_scan_word, ok_scan_word F_scan_word T c_is_word, T.g_scan_word, F_scan_word.kp, F_scan_word.bindsN fun _ _ _ _ _ _ us hl => match us, hl with | [_, _], _ => rfl⟩
  obtain ⟨ds3_scan_shape, v3, b3_scan_shape⟩ := F_scan_shape.binds1 (ps := ["text", "at", "floors"]) 3 1 (by simp) rfl fun _ _ _ _ _ _ _ us its hu hi => match us, hu, its, hi with | [_, _, _], _, [_], _ => ⟨_, rfl, rfl⟩
  cases v3
  obtain ⟨ds2_scan_shape, v2_scan_shape, b2_scan_shape⟩ := F_scan_shape.binds1 (ps := ["text", "at", "floors"]) 2 0 (by simp) rfl fun _ _ _ _ _ _ _ us its hu hi => match us, hu, its, hi with | [_, _], _, [_], _ => ⟨_, rfl, rfl⟩
  have c_scan_shape2 : CalD P w K mg base 6 "scan_shape" ["text", "at", "floors"] [.int 3] (sp_scan 4) := ⟨_, fd_scan_shape, ds2_scan_shape, ok_scan_shape F_scan_shape T T.g_scan_shape b3_scan_shape c_scan_word 4, T.g_scan_shape, F_scan_shape.kp, b2_scan_shape, v2_scan_shape⟩
  have c_is_bounded : Cal P w K mg base 5 "is_bounded" ["tree"] sp_bounded := ⟨_, fd_is_bounded, ok_is_bounded F_is_bounded T c_records_of c_plains_of, T.g_is_bounded, F_is_bounded.kp, F_is_bounded.bindsN fun _ _ _ _ _ _ us hl => match us, hl with | [_], _ => rfl⟩
  have c_tree_of : Cal P w K mg base 7 "tree_of" ["text"] (sp_tree_of K) := ⟨_, fd_tree_of, ok_tree_of F_tree_of T c_is_bounded c_scan_shape2, T.g_tree_of, F_tree_of.kp, F_tree_of.bindsN fun _ _ _ _ _ _ us hl => match us, hl with | [_], _ => rfl⟩
  have b_Shape___init__ : Binds K fd_Shape___init__ ["self", "text"] [] := F_Shape___init__.bindsN fun _ _ _ _ _ _ us hl => match us, hl with | [_, _], _ => rfl
  have m_Shape : CalM P w K mg base 16 "Shape" (He.ga K "Shape") ["self", "text"] (sp_shape K (He.ga K "Shape") (He.ga K "BadShape") 4) := ⟨_, fd_Shape___init__, T.m_Shape, ok_Shape F_Shape___init__ T b_Shape___init__ c_tree_of c_text_of x_BadShape 4, T.g_Shape, b_Shape___init__⟩
  have b_law_records : Binds K fd_law_records ["_law_tree_here"] [] := F_law_records.bindsN fun _ _ _ _ _ _ us hl => match us, hl with | [_], _ => rfl
  have c_law_records : Cal P w K mg base 4 "_law_records" ["_law_tree_here"] (sp_tree 4 fun t => .int (t.recs : Nat)) := ⟨_, fd_law_records, ok_law_records F_law_records T T.g__law_records b_law_records 4, T.g__law_records, F_law_records.kp, b_law_records⟩
  have b_law_plains : Binds K fd_law_plains ["_law_tree_here"] [] := F_law_plains.bindsN fun _ _ _ _ _ _ us hl => match us, hl with | [_], _ => rfl
  have c_law_plains : Cal P w K mg base 4 "_law_plains" ["_law_tree_here"] (sp_tree 4 fun t => .int (t.plains : Nat)) := ⟨_, fd_law_plains, ok_law_plains F_law_plains T T.g__law_plains b_law_plains 4, T.g__law_plains, F_law_plains.kp, b_law_plains⟩
  have b_law_depth : Binds K fd_law_depth ["_law_tree_here"] [] := F_law_depth.bindsN fun _ _ _ _ _ _ us hl => match us, hl with | [_], _ => rfl
  have c_law_depth : Cal P w K mg base 4 "_law_depth" ["_law_tree_here"] (sp_tree 4 fun t => .int (t.depth : Nat)) := ⟨_, fd_law_depth, ok_law_depth F_law_depth T T.g__law_depth b_law_depth 4, T.g__law_depth, F_law_depth.kp, b_law_depth⟩
  have b_law_text : Binds K fd_law_text ["_law_tree_here"] [] := F_law_text.bindsN fun _ _ _ _ _ _ us hl => match us, hl with | [_], _ => rfl
  have c_law_text : Cal P w K mg base 4 "_law_text" ["_law_tree_here"] (sp_tree 4 fun t => .str t.text) := ⟨_, fd_law_text, ok_law_text F_law_text T T.g__law_text b_law_text 4, T.g__law_text, F_law_text.kp, b_law_text⟩
  have b_law_tree : Binds K fd_law_tree ["_law_state", "_law_floors", "_law_room", "_law_pool"] [] := F_law_tree.bindsN fun _ _ _ _ _ _ us hl => match us, hl with | [_, _, _, _], _ => rfl
  have c_law_tree : Cal P w K mg base 8 "_law_tree" ["_law_state", "_law_floors", "_law_room", "_law_pool"] (sp_ltree 4) := ⟨_, fd_law_tree, ok_law_tree F_law_tree T T.g__law_tree b_law_tree c_law_draw c_law_of c_law_word c_law_records c_law_plains c_law_depth 4, T.g__law_tree, F_law_tree.kp, b_law_tree⟩
  have c_law_made_shape : Cal P w K mg base 9 "_law_made_shape" ["_law_state", "_law_least"] sp_mshape := ⟨_, fd_law_made_shape, ok_law_made_shape F_law_made_shape T c_law_draw c_law_word c_law_tree, T.g__law_made_shape, F_law_made_shape.kp, F_law_made_shape.bindsN fun _ _ _ _ _ _ us hl => match us, hl with | [_, _], _ => rfl⟩
  have c_law_odd : Cal P w K mg base 3 "_law_odd" ["_law_state"] sp_oddN := ⟨_, fd_law_odd, ok_law_odd F_law_odd T c_law_of, T.g__law_odd, F_law_odd.kp, F_law_odd.bindsN fun _ _ _ _ _ _ us hl => match us, hl with | [_], _ => rfl⟩
  have b_law_paths : Binds K fd_law_paths ["_law_tree_here"] [] := F_law_paths.bindsN fun _ _ _ _ _ _ us hl => match us, hl with | [_], _ => rfl
  have c_law_paths : Cal P w K mg base 4 "_law_paths" ["_law_tree_here"] (sp_lpaths 4) := ⟨_, fd_law_paths, ok_law_paths F_law_paths T T.g__law_paths b_law_paths 4, T.g__law_paths, F_law_paths.kp, b_law_paths⟩
  have k_Shape_getitem : CalK P w K mg base (L2.CX P w) 4 (He.ga K "Shape") "__getitem__" ["self", "path"] (sp_get K (He.ga K "Shape") (He.ga K "BadPath")) := ⟨_, fd_Shape___getitem__, T.h_Shape___getitem__, T.fi_get, ok_get F_Shape___getitem__ T x_BadPath, F_Shape___getitem__.bindsN fun _ _ _ _ _ _ us hl => match us, hl with | [_, _], _ => rfl⟩
  have k_Shape_contains : CalK P w K mg base CX0 1 (He.ga K "Shape") "__contains__" ["self", "path"] (sp_con K (He.ga K "Shape")) := ⟨_, fd_Shape___contains__, T.h_Shape___contains__, T.fi_con, ok_con F_Shape___contains__ T, F_Shape___contains__.bindsN fun _ _ _ _ _ _ us hl => match us, hl with | [_, _], _ => rfl⟩
  have k_Shape_eq : CalK P w K mg base CX0 1 (He.ga K "Shape") "__eq__" ["self", "other"] (sp_eqS K (He.ga K "Shape")) := ⟨_, fd_Shape___eq__, T.h_Shape___eq__, T.fi_eq, ok_eq F_Shape___eq__ T, F_Shape___eq__.bindsN fun _ _ _ _ _ _ us hl => match us, hl with | [_, _], _ => rfl⟩
  have p_Shape_is_plain : CalP P w K mg base 1 (He.ga K "Shape") "is_plain" (sp_shP (He.ga K "Shape") fun t => .bl t.isNil) := ⟨_, _, fd_Shape_is_plain, T.p_Shape_is_plain.ex, T.k_Shape, ok_is_plain F_Shape_is_plain T , F_Shape_is_plain.bindsN fun _ _ _ _ _ _ us hl => match us, hl with | [_], _ => rfl⟩
  have p_Shape_plains : CalP P w K mg base 5 (He.ga K "Shape") "plains" (sp_shP (He.ga K "Shape") fun t => .int (t.plains : Nat)) := ⟨_, _, fd_Shape_plains, T.p_Shape_plains.ex, T.k_Shape, ok_pplains F_Shape_plains T c_plains_of, F_Shape_plains.bindsN fun _ _ _ _ _ _ us hl => match us, hl with | [_], _ => rfl⟩
  have c_words_of : Cal P w K mg base 1 "words_of" ["path"] sp_words := ⟨_, fd_words_of, ok_words_of F_words_of T , T.g_words_of, F_words_of.kp, F_words_of.bindsN fun _ _ _ _ _ _ us hl => match us, hl with | [_], _ => rfl⟩
  have c_is_whole : Cal P w K mg base 1 "is_whole" ["value"] (sp_isw K (He.ga K "Part")) := ⟨_, fd_is_whole, ok_is_whole F_is_whole T , T.g_is_whole, F_is_whole.kp, F_is_whole.bindsN fun _ _ _ _ _ _ us hl => match us, hl with | [_], _ => rfl⟩
  have c_are_wholes : Cal P w K mg base 2 "are_wholes" ["values", "many"] sp_wholes := ⟨_, fd_are_wholes, ok_are_wholes F_are_wholes T c_is_whole, T.g_are_wholes, F_are_wholes.kp, F_are_wholes.bindsN fun _ _ _ _ _ _ us hl => match us, hl with | [_, _], _ => rfl⟩
  obtain ⟨ds_P, hv_P, hb_P⟩ := F_Part___init__.binds0 (ps := ["self","shape","values","cells"]) 3 (by simp) rfl fun D doc pm an cdv ct us ks hu hk => match us, hu, ks, hk with | [_,_,_], _, [_], _ => ⟨_, _, _, _, _, _, rfl, rfl, rfl⟩
  have m_Part : CalMD P w K mg base 15 "Part" (He.ga K "Part") ["self", "shape", "values", "cells"] [V.non] (sp_part (C3 K) (He.ga K "BadValues") 4) := ⟨_, fd_Part___init__, ds_P, T.m_Part, ok_Part F_Part___init__ T hb_P hv_P c_are_wholes p_Shape_is_plain p_Shape_plains x_BadValues 4, T.g_Part, hb_P, hv_P⟩
  have hb_pc : Binds K fd_Part_content ["self"] [] := F_Part_content.bindsN fun _ _ _ _ _ _ us hl => match us, hl with | [_], _ => rfl
  have p_Part_content : CalP P w K mg base 8 (He.ga K "Part") "content" (sp_pcont (C3 K) 4) := ⟨_, _, fd_Part_content, T.p_Part_content.ex, T.k_Part, ok_pcont F_Part_content T hb_pc 4, hb_pc⟩
  have k_Part_getitem : CalK P w K mg base (L2.CX P w) 4 (He.ga K "Part") "__getitem__" ["self", "path"] (sp_pget K (C3 K) (He.ga K "BadPath")) := ⟨_, fd_Part___getitem__, T.h_Part___getitem__, T.fi_pget, ok_pget F_Part___getitem__ T k_Shape_contains c_words_of x_BadPath, F_Part___getitem__.bindsN fun _ _ _ _ _ _ us hl => match us, hl with | [_, _], _ => rfl⟩
  have k_Part_contains : CalK P w K mg base CX0 3 (He.ga K "Part") "__contains__" ["self", "path"] (sp_pcon K (C3 K)) := ⟨_, fd_Part___contains__, T.h_Part___contains__, T.fi_pcon, ok_pcon F_Part___contains__ T k_Shape_contains, F_Part___contains__.bindsN fun _ _ _ _ _ _ us hl => match us, hl with | [_, _], _ => rfl⟩
  have k_Part_setitem : CalK P w K mg base (L2.CX P w) 7 (He.ga K "Part") "__setitem__" ["self", "path", "value"] (sp_pset K (C3 K) (He.ga K "BadPath") (He.ga K "BadValue")) := ⟨_, fd_Part___setitem__, T.h_Part___setitem__, T.fi_pset, ok_pset F_Part___setitem__ T k_Shape_contains k_Shape_getitem k_Shape_eq p_Shape_is_plain c_is_whole c_words_of x_BadPath x_BadValue, F_Part___setitem__.bindsN fun _ _ _ _ _ _ us hl => match us, hl with | [_, _, _], _ => rfl⟩
  have k_Part_copied : CalK P w K mg base CX0 17 (He.ga K "Part") "copied" ["self"] (sp_copied (C3 K)) := ⟨_, fd_Part_copied, T.h_Part_copied, T.fi_copied, ok_copied F_Part_copied T m_Part p_Part_content, F_Part_copied.bindsN fun _ _ _ _ _ _ us hl => match us, hl with | [_], _ => rfl⟩
  have c_law_number : Cal P w K mg base 2 "_law_number" ["_law_state"] sp_number := ⟨_, fd_law_number, ok_law_number F_law_number T c_law_draw, T.g__law_number, F_law_number.kp, F_law_number.bindsN fun _ _ _ _ _ _ us hl => match us, hl with | [_], _ => rfl⟩
  have c_law_made : CalG P w K mg base 17 "_law_made" ["_law_shape", "_law_values"] (sp_lmade (C3 K)) := ⟨_, fd_law_made, ok_law_made F_law_made T m_Part, T.g__law_made, F_law_made.kp, F_law_made.bindsN fun _ _ _ _ _ _ us hl => match us, hl with | [_, _], _ => rfl⟩
  have c_law_item : CalG P w K mg base 8 "_law_item" ["_law_part", "_law_path"] (sp_litem K (C3 K)) := ⟨_, fd_law_item, ok_law_item F_law_item T k_Part_getitem, T.g__law_item, F_law_item.kp, F_law_item.bindsN fun _ _ _ _ _ _ us hl => match us, hl with | [_, _], _ => rfl⟩
  have c_law_put : CalG P w K mg base 9 "_law_put" ["_law_part", "_law_path", "_law_value"] (sp_lput K (C3 K)) := ⟨_, fd_law_put, ok_law_put F_law_put T k_Part_setitem, T.g__law_put, F_law_put.kp, F_law_put.bindsN fun _ _ _ _ _ _ us hl => match us, hl with | [_, _, _], _ => rfl⟩
  have c_law_wrong_values : Cal P w K mg base 3 "_law_wrong_values" ["_law_state", "_law_values"] sp_wrong := ⟨_, fd_law_wrong_values, ok_law_wrong_values F_law_wrong_values T c_law_draw c_law_of, T.g__law_wrong_values, F_law_wrong_values.kp, F_law_wrong_values.bindsN fun _ _ _ _ _ _ us hl => match us, hl with | [_, _], _ => rfl⟩
  exact ok_law F_law T c_law_start c_law_draw c_law_of c_law_odd c_law_made_shape c_law_text c_law_plains c_law_number c_law_wrong_values c_law_made c_law_item c_law_put c_law_paths m_Shape m_Part k_Part_getitem k_Part_contains k_Part_copied p_Part_content
end Lx
open PySem PySem.W PySem.Calls PyProof.Rows
set_option maxHeartbeats 0 in
theorem PySem.Challenge.cw_unseenwrites_k07_parts_refused_holds : PySem.Challenge.rw_unseenwrites_k07_parts_refused.Holds := by
  w_on; o_law
  refine HandSHeadRun.head_any (r := OpenLaw.row PySem.Challenge.rw_unseenwrites_k07_parts_refused) (q := view (OpenLaw.row PySem.Challenge.rw_unseenwrites_k07_parts_refused).prog [47]) (H := Lx.hk) (ob := Lx.ob) (M := 12000) (loose := Lx.loose) (d := HandSHeadRun.topDef (OpenLaw.row PySem.Challenge.rw_unseenwrites_k07_parts_refused).prog 47) (kwd := []) Lx.ob_eq
    (by kernel_rfl) (fun s => by kernel_rfl) Lx.run (by kernel_rfl) (by kernel_rfl) (by kernel_rfl) (by rfl) (by first | assumption | decide +kernel) (by decide +kernel) ⟨rfl, rfl, rfl, rfl, rfl, by decide +kernel⟩ ?hw ?hc
  case hw => w_witness2
  case hc =>
    refine Ug.walk_ofG (l := PySem.Challenge.rw_unseenwrites_k07_parts_refused) (n := 63) (k := 19) (x := "_law_script") rfl (by decide) (by kernel_rfl) ⟨rfl, by decide, by decide⟩ ?F
    intro w mg fa h Y G hmg0
    obtain ⟨K, KX, c⟩ := Y
    have hmg : mg ("law" : PySem.Str) = some (.ref fa) := by
      have e : (HandSHeadRun.topDef (OpenLaw.row PySem.Challenge.rw_unseenwrites_k07_parts_refused).prog 47).name = ("law" : PySem.Str) := by kernel_rfl
      rw [← e]
      exact hmg0
    obtain ⟨fd, hb, hF⟩ := Lx.facts (P := (PySem.Challenge.rw_unseenwrites_k07_parts_refused).prog) (w := w) KX G hmg c
    exact ⟨K, fd, Lx.sp_law K, KX, hb, fun H a ns hl _ hS => ⟨a, ns, rfl, hS, hl, fun _ => rfl⟩, hF⟩
