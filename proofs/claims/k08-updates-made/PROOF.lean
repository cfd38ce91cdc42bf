import PyProof.Rows.All
import Wide.All
import OpenK.AllK
import Wide.FinOn
import HandS.ForMost
import HandS.Wide
import HandS.IsInst
import HandS.Flow
import HandS.Defaults
import HandS.Walk
import HandS.TupAny
import HandS.StrMore
import HandS.Head0
import HandS.Head1
import HandS.Head2
import HandS.HeadEnd
import HandS.HeadHook1
import HandS.HeadHook2
import HandS.HeadHook3
import HandS.HeadHook4
import HandS.ExcOwn
import HandS.Property
import HandS.Star
import KE.KCallOwn
import KE.KOpsOwn
import HandS.HeadNt
import PyProof.ReprRoads
import HandS.ExcInit
import HandS.ExcField
import HandS.ExcIs
import KE.KExcIs
import HandS.DictComp
import HandS.Iter
import HandS.Exc
import HandS.TryMany
import HandS.ClsMeth
import PyProof.StrLawsRepr
import HandS.GenList
import PyProof.DictWalks
import HandS.Style
import HandS.Zip
import HandS.RaiseMore
import KE.GoesMore
import HandS.IterVal
import HandS.Text
import PyProof.EqKinds
import HandS.SetFor
import PySem.Challenge.RW_unseenwrites_k08_updates_made
set_option Elab.async false
set_option linter.all false
set_option maxRecDepth 100000
set_option maxHeartbeats 4000000
namespace Ub
open PySem PySem.Spec PyProof.Rows L2
section
variable {X : Cx}
/-! ### rules that the layer lacks -/
/-- xs[i] as a value behind an operator's store, i not below 0 -/
theorem get_list : PGet X (fun x y H Q => ∃ p xs i v, x = .ref p ∧ y = .int i ∧ SqL X.K H p xs ∧ 0 ≤ i ∧ xs[i.toNat]? = some v ∧ Q v H) := by
  intro pins s σ H x y v u Q I rx ry h
  obtain ⟨p, xs, i, z, rfl, rfl, hq, h0, he, q⟩ := h
  cases rx
  obtain ⟨t, rfl⟩ := ry
  obtain ⟨its, r, pl, hz⟩ := I.list hq
  obtain ⟨w, ew, rw'⟩ := r.get he
  have hn := line63
  have hlt : i.toNat < xs.length := (List.getElem?_eq_some_iff.mp he).1
  have fin : EP X pins σ Q w s := ⟨z, H, I, rw', q⟩
  exact wpAny_getItem_list pl.isList h0 (by omega) (by simpa using ew) fin
/-- a text times a number -/
theorem op_mul_si : OpR X (binaryOp .Mult) (fun x y H Q => ∃ (z : Str) (n : Int) (L N : Nat), x = .str z ∧ y = .int n ∧ z.length ≤ L ∧ 0 ≤ n ∧ n ≤ (N : Int) ∧ N ≤ 16777216 ∧ L * N ≤ 16777216 ∧ Q (.str (Txt.mul z n)) H) := by
  intro pins s σ H x y v u Q I rx ry h
  obtain ⟨z, n, L, N, rfl, rfl, h1, h0, h2, h3, h4, q⟩ := h
  obtain ⟨t, rfl⟩ := rx
  obtain ⟨t', rfl⟩ := ry
  exact SB.mul (mulOk_of L N h1 h2 (by omega) h3 h4) fun t' k => ⟨.str (Txt.mul z n), H, I.tok _, ⟨_, rfl⟩, q⟩
theorem signs_vals (x : Str) : ∀ (acc : List Value) (i : Nat), (∀ (j : Nat) v, acc[j]? = some v → SignAt x (i + j) v) → acc.length + i = x.cps.size → Vals ((x.cps.toList.drop i).map fun c => V.str ⟨#[c]⟩) acc
  | [], i, _, hl => by
    have e : x.cps.toList.drop i = [] := List.drop_of_length_le (by simp at hl ⊢; omega)
    rw [e]
    exact .nil
  | v :: r, i, h, hl => by
    obtain ⟨c, u, e1, e2⟩ := h 0 v rfl
    have e3 : x.cps.toList[i]? = some c := by simpa using e1
    have hi : i < x.cps.toList.length := (List.getElem?_eq_some_iff.mp e3).1
    rw [List.drop_eq_getElem_cons hi, List.map_cons]
    have e4 : x.cps.toList[i] = c := (List.getElem?_eq_some_iff.mp e3).2
    rw [e4]
    refine .cons ⟨u, e2⟩ (signs_vals x r (i + 1) (fun j w e => ?_) (by simp at hl ⊢; omega))
    have := h (j + 1) w (by simpa using e)
    rw [show i + 1 + j = i + (j + 1) by omega]
    exact this
/-- list(text) -/
theorem call_list_str (hc : X.calm = true) : CallR X (.type "list") (fun xs H Q => ∃ z : Str, xs = [.str z] ∧ z.length ≤ sizeLine ∧ ∀ l, H l = none → Q (.ref l) (upd H l (.lst (z.cps.toList.map fun c => V.str ⟨#[c]⟩)))) := by
  intro pins s σ H xs us Q I r h
  obtain ⟨z, rfl, hz, q⟩ := h
  obtain ⟨u, rfl, t, rfl⟩ := vals1 r
  have hz2 : z.cps.size ≤ sizeLine := hz
  refine PySem.call_list_str (I.ok.hd hc) z t (fun h' tk acc' c' kp e hacc => ?_) hz2
  have hv : Vals (z.cps.toList.map fun c => V.str ⟨#[c]⟩) acc'.toList := by
    have := signs_vals z acc'.toList 0 (fun j v hj => by
      rw [Nat.zero_add]
      exact hacc.2 j v (by simpa using hj)) (by simpa using hacc.1)
    simpa using this
  refine ⟨.ref s.heap.objs.size, upd H s.heap.objs.size (.lst (z.cps.toList.map fun c => V.str ⟨#[c]⟩)), I.laid (t' := tk) kp (Nat.le_refl _) (show ObjOk X.prog X.w _ _ _ (.lst (z.cps.toList.map fun c => V.str ⟨#[c]⟩)) from ⟨by simpa using hz2, acc'.toList, c', hv, by rw [Array.toArray_toList]; exact e⟩), rfl, q _ (I.hok.fresh (Nat.le_refl _))⟩
end
/-! ### a def by its name -/
structure Cal (P : Program) (w : World) (K : PySem.W.Frag) (mg : Str → Option Value) (base : Heap) (k : Nat) (x : Str) (ps : List Str) (sp : Sp) : Prop where
  ex : ∃ f fd, FnOk P w K mg base CX0 k f fd ps sp ∧ mg x = some (.ref f) ∧ PySem.W.keepIn K (.ref f) = true ∧ Binds K fd ps []
section
variable {X : Cx} {k : Nat} {x : Str} {ps : List Str} {sp : Sp} {e : Expr} {es : List Expr} {p pos : Pos} {t : TA}
theorem pe_cal (C : Cal X.prog X.w X.K X.mg X.base k x ps sp) (hr : Room k X.A) (hg : Gl X x)
    (ha : PA X (e :: es) t) (hdb : (x == ("__debug__" : Str)) = false := by decide) (he : starEach (e :: es) X.env = (false, eval e X.env) :: starEach es X.env := by rfl) (hpl : (backTo pos (starEach es X.env)).any (·.1) = false := by rfl) :
    PE X (.Call (.Name x p) (e :: es) [] pos) (tCall sp [] E0 t) := by
  obtain ⟨f, fd, F, hm, hk, hb⟩ := C.ex
  exact pe_call F hr hg hm hk hb .nil pass0 ha hdb he hpl
theorem Cal.mono {P : Program} {w : World} {K : PySem.W.Frag} {mg : Str → Option Value} {base : Heap} {j k : Nat} (C : Cal P w K mg base j x ps sp) (h : j ≤ k) : Cal P w K mg base k x ps sp := by
  obtain ⟨f, fd, F, hm, hk, hb⟩ := C.ex
  exact ⟨f, fd, F.mono h, hm, hk, hb⟩
end
/-- a def with defaults, called with fewer arguments -/
structure CalD (P : Program) (w : World) (K : PySem.W.Frag) (mg : Str → Option Value) (base : Heap) (k : Nat) (x : Str) (ps : List Str) (dvs : List V) (sp : Sp) : Prop where
  ex : ∃ f fd ds, FnOk P w K mg base CX0 k f fd ps sp ∧ mg x = some (.ref f) ∧ PySem.W.keepIn K (.ref f) = true ∧ Binds K fd ps ds ∧ Vals dvs ds
theorem pe_calD {X : Cx} {k : Nat} {x : Str} {ps : List Str} {dvs : List V} {sp : Sp} {e : Expr} {es : List Expr} {p pos : Pos} {t : TA} (C : CalD X.prog X.w X.K X.mg X.base k x ps dvs sp) (hr : Room k X.A) (hg : Gl X x)
    (ha : PA X (e :: es) t) (hdb : (x == ("__debug__" : Str)) = false := by decide) (he : starEach (e :: es) X.env = (false, eval e X.env) :: starEach es X.env := by rfl) (hpl : (backTo pos (starEach es X.env)).any (·.1) = false := by rfl) :
    PE X (.Call (.Name x p) (e :: es) [] pos) (tCall sp dvs E0 t) := by
  obtain ⟨f, fd, ds, F, hm, hk, hb, hd⟩ := C.ex
  exact pe_call F hr hg hm hk hb hd pass0 ha hdb he hpl
/-! ### heaps -/
theorem same_upd {H : Hp} {p : Addr} {o : HO} (h : H p = none) : Same H (upd H p o) := fun b x e => by
  rw [upd_ne (ne_of_none e h)]
  exact e
theorem Same.tup {K : PySem.W.Frag} {H H' : Hp} {a : Addr} {xs : List V} (e : Same H H') (h : SqT K H a xs) : SqT K H' a xs := by
  rcases h with (h | ⟨o, h⟩) | h
  · exact .inl (.inl (e _ _ h))
  · exact .inl (.inr ⟨o, e _ _ h⟩)
  · exact .inr h
/-! ### names of the module by what they hold -/
section
variable {X : Cx} {x : Str} {pos : Pos}
theorem pe_globI {i : Int} (hg : Gl X x) (hm : ∃ t, X.mg x = some (.int i t)) (hd : (x == ("__debug__" : Str)) = false := by decide) : PE X (.Name x pos) (tC (.int i)) := by
  obtain ⟨t, hm⟩ := hm
  exact pe_glob hg hm ⟨t, rfl⟩ hd
theorem pe_globS {z : Str} (hg : Gl X x) (hm : ∃ t, X.mg x = some (.str z t)) (hd : (x == ("__debug__" : Str)) = false := by decide) : PE X (.Name x pos) (tC (.str z)) := by
  obtain ⟨t, hm⟩ := hm
  exact pe_glob hg hm ⟨t, rfl⟩ hd
theorem pe_globR {a : Addr} (hg : Gl X x) (hm : X.mg x = some (.ref a)) (hd : (x == ("__debug__" : Str)) = false := by decide) : PE X (.Name x pos) (tC (.ref a)) := pe_glob hg hm rfl hd
end
/-! ### the rules with the written part named -/
section
variable {X : Cx} {K : PySem.W.Frag}
theorem op_in_seqK (K : PySem.W.Frag) (e : X.K = K := by rfl) : OpR X (compareOp .In) (rIn K false) := e ▸ op_in_seq
theorem op_notIn_seqK (K : PySem.W.Frag) (e : X.K = K := by rfl) : OpR X (compareOp .NotIn) (rIn K true) := e ▸ op_notIn_seq
theorem op_eqDK (K : PySem.W.Frag) (hu : X.A.units + 64 < cLine) (e : X.K = K := by rfl) : OpR X (compareOp .Eq) (rEqD K) := e ▸ op_eqD hu
theorem op_neDK (K : PySem.W.Frag) (hu : X.A.units + 64 < cLine) (e : X.K = K := by rfl) : OpR X (compareOp .NotEq) (rNeD K) := e ▸ op_neD hu
theorem op_catAK (K : PySem.W.Frag) (e : X.K = K := by rfl) : OpR X (binaryOp .Add) (rCatA K) := e ▸ op_catA
theorem ix_listK (K : PySem.W.Frag) (e : X.K = K := by rfl) : IxR X (rIxL K) := e ▸ ix_list
theorem ix_tupK (K : PySem.W.Frag) (e : X.K = K := by rfl) : IxR X (rIxT K) := e ▸ ix_tup
theorem sl_listK (K : PySem.W.Frag) (e : X.K = K := by rfl) : SlR X (rSlL K) := e ▸ sl_list
theorem sl_tupAK (K : PySem.W.Frag) (e : X.K = K := by rfl) : SlR X (rSlA K) := e ▸ sl_tupA
def rLenQ (K : PySem.W.Frag) : List V → Hp → VK → Prop := fun xs H Q => ∃ p ys, xs = [.ref p] ∧ (SqL K H p ys ∨ SqT K H p ys) ∧ Q (.int ys.length) H
theorem call_len_seqK (K : PySem.W.Frag) (e : X.K = K := by rfl) : CallR X (.builtin "len") (rLenQ K) := e ▸ call_len_seq
def rListQ (K : PySem.W.Frag) : List V → Hp → VK → Prop := fun xs H Q => ∃ p ys, xs = [.ref p] ∧ (SqL K H p ys ∨ SqT K H p ys) ∧ ∀ l, H l = none → Q (.ref l) (upd H l (.lst ys))
theorem call_list_ofK (K : PySem.W.Frag) (e : X.K = K := by rfl) : CallR X (.type "list") (rListQ K) := e ▸ call_list_of
def rTupQ (K : PySem.W.Frag) : List V → Hp → VK → Prop := fun xs H Q => ∃ p ys, xs = [.ref p] ∧ ((SqL K H p ys ∧ ∀ l, H l = none → Q (.ref l) (upd H l (.tup ys))) ∨ (SqT K H p ys ∧ Q (.ref p) H))
theorem call_tuple_ofK (K : PySem.W.Frag) (e : X.K = K := by rfl) : CallR X (.type "tuple") (rTupQ K) := e ▸ call_tuple_of
theorem call_isiK' (K : PySem.W.Frag) (e : X.K = K := by rfl) : CallR X (.builtin "isinstance") (rIsi K) := e ▸ call_isi
theorem cr_allK (K : PySem.W.Frag) (hc : X.calm = true) (e : X.K = K := by rfl) : CallR X (.builtin "all") (rAll K) := e ▸ cr_all hc
theorem cr_anyK (K : PySem.W.Frag) (hc : X.calm = true) (e : X.K = K := by rfl) : CallR X (.builtin "any") (rAny K) := e ▸ cr_any hc
theorem cr_sumK (K : PySem.W.Frag) (hc : X.calm = true) (e : X.K = K := by rfl) : CallR X (.builtin "sum") (rSum K) := e ▸ cr_sum hc
theorem cr_maxK (K : PySem.W.Frag) (hc : X.calm = true) (e : X.K = K := by rfl) : CallR X (.builtin "max") (rMax K) := e ▸ cr_max hc
theorem cr_minK (K : PySem.W.Frag) (hc : X.calm = true) (e : X.K = K := by rfl) : CallR X (.builtin "min") (rMin K) := e ▸ cr_min hc
def rGetL (K : PySem.W.Frag) : V → V → Hp → VK → Prop := fun x y H Q => ∃ p xs i v, x = .ref p ∧ y = .int i ∧ SqL K H p xs ∧ 0 ≤ i ∧ xs[i.toNat]? = some v ∧ Q v H
theorem get_listK (K : PySem.W.Frag) (e : X.K = K := by rfl) : PGet X (rGetL K) := e ▸ get_list
theorem pi_listK (K : PySem.W.Frag) {tg l : Expr} {tl : TE} (hl : PE X l tl) (e : X.K = K := by rfl) : PI X tg l (iList K tl) := e ▸ pi_list hl
theorem pi_tupK (K : PySem.W.Frag) {tg l : Expr} {tl : TE} (hl : PE X l tl) (e : X.K = K := by rfl) : PI X tg l (iTup K tl) := e ▸ pi_tup hl
theorem pt_truthK (K : PySem.W.Frag) {a : Expr} {ta : TE} (ha : PE X a ta) (he : ∀ whole, isTrue a X.env whole = (do let v ← whole; standAt a.pos; holding [v] (truthy v))) (e : X.K = K := by rfl) : PT X a (fun σ H Q => ta σ H fun x H' => ∃ k, TruV K x H' k ∧ Q k H') := e ▸ pt_truth ha he
theorem pe_fldK (K : PySem.W.Frag) {e0 : Expr} {ta : TE} {f : Str} {pos : Pos} (he : PE X e0 ta) (hb : attributeBase e0 f X.env (eval e0 X.env) = eval e0 X.env) (e : X.K = K := by rfl) : PE X (.Attribute e0 f pos) (tFld K ta f) := e ▸ pe_fld he hb
theorem pe_bmK (K : PySem.W.Frag) {o e0 : Expr} {es : List Expr} {to : TE} {t : TA} {name : Str} {apos cpos : Pos} {T id : String} {r : V → List V → Hp → VK → Prop} (pa : PlainAttrs T) (slot : Slot T name id) (hty : typeOf (.builtin id) = pure (.type "method_descriptor")) (hm : MtR X id r) (ho : PE X o to) (ha : PA X (e0 :: es) t)
    (hbase : attributeBase o name X.env (eval o X.env) = eval o X.env := by rfl)
    (hfew : ((backTo cpos (starEach (e0 :: es) X.env)).all (fun x => !x.1) && (backToKw cpos (keywordEach [] X.env)).all (fun x => x.1.isSome)
      && decide ((e0 :: es).length + ([] : List Keyword).length + (if ([] : List Keyword).isEmpty then 0 else 1) < 30)) = true := by rfl)
    (hline : (apos.endLine == cpos.line) = true := by rfl) (hs : starEach (e0 :: es) X.env = (false, eval e0 X.env) :: starEach es X.env := by rfl) (hplain : (backTo cpos (starEach es X.env)).any (·.1) = false := by rfl) (e : X.K = K := by rfl) :
    PE X (.Call (.Attribute o name apos) (e0 :: es) [] cpos) (tBM K T r to t) := e ▸ pe_bm pa slot hty hm ho ha hbase hfew hline hs hplain
theorem pe_bm0K (K : PySem.W.Frag) {o : Expr} {to : TE} {name : Str} {apos cpos : Pos} {T id : String} {r : V → List V → Hp → VK → Prop} (pa : PlainAttrs T) (slot : Slot T name id) (hty : typeOf (.builtin id) = pure (.type "method_descriptor")) (hm : MtR X id r) (ho : PE X o to)
    (hbase : attributeBase o name X.env (eval o X.env) = eval o X.env := by rfl) (hline : (apos.endLine == cpos.line) = true := by rfl) (e : X.K = K := by rfl) : PE X (.Call (.Attribute o name apos) [] [] cpos) (tBM0 K T r to) := e ▸ pe_bm0 pa slot hty hm ho hbase hline
end
theorem units1 {k : Nat} {A : Around} (r : Room k A) : A.units + 1 < cLine := by have := r.un; omega
/-- the heap by a name -/
theorem absH {G : Hp → Prop} {H' : Hp} (h : ∀ H'', H'' = H' → G H'') : G H' := h _ rfl
/-! ### ways that meet -/
theorem joinE {te : TE} {σ : L2.St} {H : Hp} {Q : VK} (R : VK) (hR : ∀ Q' : VK, (∀ v H', R v H' → Q' v H') → te σ H Q') (hQ : ∀ v H', R v H' → Q v H') : te σ H Q := hR Q hQ
theorem asgJ {te : TE} {g : TG} {D : Ends} {σ : L2.St} {H : Hp} (R : VK) (hR : ∀ Q' : VK, (∀ v H', R v H' → Q' v H') → te σ H Q') (hQ : ∀ v H', R v H' → g v σ H' D.nx) : tAsg te g D σ H := hR _ hQ
theorem asgS {te : TE} {g : TG} {u : TS} {D : Ends} {σ : L2.St} {H : Hp} (R : VK) (hR : ∀ Q' : VK, (∀ v H', R v H' → Q' v H') → te σ H Q') (hQ : ∀ v H', R v H' → g v σ H' (u D)) : tSeq (tAsg te g) u D σ H := hR _ hQ
theorem seqJ {t u : TS} {D : Ends} {σ : L2.St} {H : Hp} (R : L2.St → Hp → Prop) (hR : ∀ D' : Ends, (∀ σ' H', R σ' H' → D'.nx σ' H') → D'.rt = D.rt → D'.bk = D.bk → D'.ct = D.ct → t D' σ H) (hQ : ∀ σ' H', R σ' H' → u D σ' H') : tSeq t u D σ H := hR _ hQ rfl rfl rfl
theorem nextI {D : Ends} {σ : L2.St} {H : Hp} (h : D.nx σ H) : tNext D σ H := h
theorem at0 {α : Type} {x : α} {xs : List α} : atI (x :: xs) 0 = some x := atI_nat (j := 0) rfl
theorem ix0 {n : Nat} : ixN (n + 1) 0 = some 0 := by
  unfold ixN
  rw [if_pos (by decide), if_pos (by omega)]
  rfl
/-! ### comprehensions whose elements are values of their items -/
theorem fm_take {xs : List V} {f : V → Option V} {i : Nat} {x : V} (h : xs[i]? = some x) : (xs.take (i + 1)).filterMap f = (xs.take i).filterMap f ++ (f x).toList := by
  rw [List.take_add_one, h, List.filterMap_append]
  cases e : f x <;> simp [e]
theorem fm_len (xs : List V) (f : V → Option V) : (xs.filterMap f).length ≤ xs.length := List.length_filterMap_le f xs
section
variable {K : PySem.W.Frag} {a : Addr} {g : TG} {tt : TT} {te : TE} {vs : List Nat} {σ : L2.St} {H1 : Hp} {D : Addr} {Qd : Hp → Prop}
def LcTurn (g : TG) (tt : TT) (te : TE) (vs : List Nat) (σ : L2.St) (f : V → Option V) (x : V) (H : Hp) : Prop := ∀ (Q1 : VK) (Q0 : Hp → Prop), (∀ y H', f x = some y → Same H H' → Q1 y H') → (∀ H', f x = none → Same H H' → Q0 H') →
  g x (wipe σ vs) H fun σ2 H2 => wipe σ2 vs = wipe σ vs ∧ tt σ2 H2 fun b H3 => if b = true then te σ2 H3 Q1 else Q0 H3
theorem lc_step {xs : List V} {f : V → Option V} {i : Nat} {x : V} {H : Hp} (hx : xs[i]? = some x) (hz : xs.length ≤ sizeLine) (hD : H1 D = none) (s : Same H1 H) (d : H D = some (.lst ((xs.take i).filterMap f))) (t : LcTurn g tt te vs σ f x H) :
    g x (wipe σ vs) H fun σ2 H2 => wipe σ2 vs = wipe σ vs ∧ tt σ2 H2 fun b H3 => if b = true then te σ2 H3 fun y H4 => ∃ acc, H4 D = some (.lst acc) ∧ acc.length < sizeLine ∧ (Same H1 (upd H4 D (.lst (acc ++ [y]))) ∧ (upd H4 D (.lst (acc ++ [y]))) D = some (.lst ((xs.take (i + 1)).filterMap f))) else (Same H1 H3 ∧ H3 D = some (.lst ((xs.take (i + 1)).filterMap f))) := by
  have hi : i < xs.length := (List.getElem?_eq_some_iff.mp hx).1
  refine t (fun y H4 => ∃ acc, H4 D = some (.lst acc) ∧ acc.length < sizeLine ∧ (Same H1 (upd H4 D (.lst (acc ++ [y]))) ∧ (upd H4 D (.lst (acc ++ [y]))) D = some (.lst ((xs.take (i + 1)).filterMap f)))) (fun H3 => Same H1 H3 ∧ H3 D = some (.lst ((xs.take (i + 1)).filterMap f))) (fun y H' e s' => ?_) (fun H' e s' => ?_)
  · refine ⟨_, s' _ _ d, ?_, fun b o q => ?_, ?_⟩
    · have h1 := fm_len (xs.take i) f
      rw [List.length_take] at h1
      omega
    · rw [upd_ne (ne_of_none q hD)]
      exact s' _ _ (s _ _ q)
    · rw [upd_same, fm_take hx, e]
      rfl
  · refine ⟨s.trans s', ?_⟩
    rw [fm_take hx, e, s' _ _ d]
    simp
theorem lcW {J : It} {G : Hp → Prop} {xs : List V} (w : Walk J xs.length G (YAt xs)) (f : V → Option V) (hG : ∀ H, Same H1 H → G H) (hz : xs.length ≤ sizeLine) (hD : H1 D = none) (turn : ∀ (i : Nat) x H, xs[i]? = some x → Same H1 H → LcTurn g tt te vs σ f x H)
    (done : ∀ H', Same H1 H' → H' D = some (.lst (xs.filterMap f)) → Qd H') :
    ∃ W : Nat → Nat → Hp → Prop, (∃ m, W 0 m (upd H1 D (.lst []))) ∧ ∀ i m H, W i m H →
      (J.stop i H ∧ Qd H) ∨ (J.go i H ∧ ∃ Nx : Hp → Prop, (∀ H', Nx H' → ∃ m', m' < m ∧ W (i + 1) m' H') ∧ ∀ x H', J.yld i H x H' → g x (wipe σ vs) H' fun σ2 H2 => wipe σ2 vs = wipe σ vs ∧ tt σ2 H2 fun b H3 =>
        if b = true then te σ2 H3 fun y H4 => ∃ acc, H4 D = some (.lst acc) ∧ acc.length < sizeLine ∧ Nx (upd H4 D (.lst (acc ++ [y]))) else Nx H3) :=
  lc_it w (fun i H => Same H1 H ∧ H D = some (.lst ((xs.take i).filterMap f))) ⟨same_upd hD, upd_same⟩ (fun i H _ p => hG H p.1) (fun i x H H' _ p y => by
    obtain ⟨rfl, hx⟩ := y
    exact lc_step hx hz hD p.1 p.2 (turn i x _ hx p.1)) (fun H p => done H p.1 (by have := p.2; rwa [List.take_length] at this))
end
/-- a comprehension by a list of what its items stand for -/
theorem lcM {g : TG} {tt : TT} {te : TE} {vs : List Nat} {σ : L2.St} {H1 : Hp} {D : Addr} {Qd : Hp → Prop} {J : It} {G : Hp → Prop} {xs : List V} {α : Type} (w : Walk J xs.length G (YAt xs)) (ms : List α) (hl : ms.length = xs.length) (h : α → Option V) (hG : ∀ H, Same H1 H → G H) (hz : xs.length ≤ sizeLine) (hD : H1 D = none)
    (turn : ∀ (i : Nat) x m H, xs[i]? = some x → ms[i]? = some m → Same H1 H → LcTurn g tt te vs σ (fun _ => h m) x H)
    (done : ∀ H', Same H1 H' → H' D = some (.lst (ms.filterMap h)) → Qd H') :
    ∃ W : Nat → Nat → Hp → Prop, (∃ m, W 0 m (upd H1 D (.lst []))) ∧ ∀ i m H, W i m H →
      (J.stop i H ∧ Qd H) ∨ (J.go i H ∧ ∃ Nx : Hp → Prop, (∀ H', Nx H' → ∃ m', m' < m ∧ W (i + 1) m' H') ∧ ∀ x H', J.yld i H x H' → g x (wipe σ vs) H' fun σ2 H2 => wipe σ2 vs = wipe σ vs ∧ tt σ2 H2 fun b H3 =>
        if b = true then te σ2 H3 fun y H4 => ∃ acc, H4 D = some (.lst acc) ∧ acc.length < sizeLine ∧ Nx (upd H4 D (.lst (acc ++ [y]))) else Nx H3) :=
  lc_it w (fun i H => Same H1 H ∧ H D = some (.lst ((ms.take i).filterMap h))) ⟨same_upd hD, upd_same⟩ (fun i H _ p => hG H p.1) (fun i x H H' hi p y => by
    obtain ⟨rfl, hx⟩ := y
    have him : i < ms.length := by omega
    have hm : ms[i]? = some ms[i] := List.getElem?_eq_getElem him
    have et : (ms.take (i + 1)).filterMap h = (ms.take i).filterMap h ++ (h ms[i]).toList := by
      rw [List.take_add_one, hm, List.filterMap_append]
      cases e : h ms[i] <;> simp [e]
    have ln : ((ms.take i).filterMap h).length ≤ i := by
      have := List.length_filterMap_le h (ms.take i)
      rw [List.length_take] at this
      omega
    refine turn i x _ _ hx hm p.1 (fun y H4 => ∃ acc, H4 D = some (.lst acc) ∧ acc.length < sizeLine ∧ (Same H1 (upd H4 D (.lst (acc ++ [y]))) ∧ (upd H4 D (.lst (acc ++ [y]))) D = some (.lst ((ms.take (i + 1)).filterMap h)))) (fun H3 => Same H1 H3 ∧ H3 D = some (.lst ((ms.take (i + 1)).filterMap h))) (fun y H' e s' => ?_) (fun H' e s' => ?_)
    · have e : h ms[i] = some y := e
      refine ⟨_, s' _ _ p.2, by omega, fun b o q => ?_, ?_⟩
      · rw [upd_ne (ne_of_none q hD)]
        exact s' _ _ (p.1 _ _ q)
      · rw [upd_same, et, e]
        rfl
    · have e : h ms[i] = none := e
      refine ⟨p.1.trans s', ?_⟩
      rw [et, e, s' _ _ p.2]
      simp) (fun H p => done H p.1 (by have := p.2; rwa [← hl, List.take_length] at this))
def sgn (c : Nat) : V := .str ⟨#[c]⟩
theorem walk_strV {z : Str} : Walk (Its z) (z.cps.toList.map sgn).length (fun _ => True) (YAt (z.cps.toList.map sgn)) := by
  have e : (z.cps.toList.map sgn).length = z.cps.size := by simp
  refine ⟨fun i _ hi _ => ?_, fun _ _ => ?_, fun i H x H' hi _ y => ?_⟩
  · rw [e] at hi; exact hi
  · rw [e]; exact Nat.le_refl _
  · obtain ⟨h1, c, h2, h3⟩ := y
    refine ⟨h1, ?_⟩
    rw [List.getElem?_map, Array.getElem?_toList, h2, h3]
    rfl
theorem walk_rangeV {lo : Int} {n : Nat} : Walk (Itr lo n) ((List.range n).map fun i => V.int (lo + (i : Nat))).length (fun _ => True) (YAt ((List.range n).map fun i => V.int (lo + (i : Nat)))) := by
  have e : ((List.range n).map fun i => V.int (lo + (i : Nat))).length = n := by simp
  refine ⟨fun i _ hi _ => ?_, fun _ _ => ?_, fun i H x H' hi _ y => ?_⟩
  · rw [e] at hi; exact hi
  · rw [e]; exact Nat.le_refl _
  · obtain ⟨h1, h2⟩ := y
    refine ⟨h1, ?_⟩
    rw [e] at hi
    rw [List.getElem?_map, List.getElem?_range hi, h2]
    rfl
/-- a function of ints as one of values -/
def liftI (h : Int → Option Int) : V → Option V
  | .int i => (h i).map V.int
  | _ => none
theorem fm_lift (h : Int → Option Int) : ∀ ns : List Int, (ns.map V.int).filterMap (liftI h) = (ns.filterMap h).map V.int
  | [] => rfl
  | n :: r => by
    rw [List.map_cons, List.filterMap_cons, List.filterMap_cons, fm_lift h r]
    have e : liftI h (V.int n) = (h n).map V.int := rfl
    rw [e]
    cases h n <;> rfl
theorem cut_map {α β : Type} (f : α → β) (xs : List α) (lo hi : Option Int) : ∃ ys : List α, ys.length ≤ xs.length ∧ (∀ y ∈ ys, y ∈ xs) ∧ ((xs.map f).drop (HT.sIx (xs.map f).length 0 lo)).take (HT.sIx (xs.map f).length (xs.map f).length hi - HT.sIx (xs.map f).length 0 lo) = ys.map f := by
  refine ⟨(xs.drop (HT.sIx (xs.map f).length 0 lo)).take (HT.sIx (xs.map f).length (xs.map f).length hi - HT.sIx (xs.map f).length 0 lo), ?_, fun y hy => List.mem_of_mem_drop (List.mem_of_mem_take hy), ?_⟩
  · rw [List.length_take, List.length_drop]
    omega
  · rw [List.map_take, List.map_drop]
theorem cutV_ints (ns : List Int) (lo hi : Option Int) : ∃ ms : List Int, ms.length ≤ ns.length ∧ (∀ y ∈ ms, y ∈ ns) ∧ cutV (ns.map V.int) lo hi = ms.map V.int := cut_map V.int ns lo hi
/-- a function of signs as one of values -/
def liftS (h : Nat → Option V) : V → Option V
  | .str s => (match s.cps.toList with
    | [c] => h c
    | _ => none)
  | _ => none
theorem liftS_sgn (h : Nat → Option V) (c : Nat) : liftS h (sgn c) = h c := rfl
theorem fm_liftS (h : Nat → Option V) : ∀ cs : List Nat, (cs.map sgn).filterMap (liftS h) = cs.filterMap h
  | [] => rfl
  | c :: r => by
    rw [List.map_cons, List.filterMap_cons, List.filterMap_cons, fm_liftS h r, liftS_sgn]
/-! ### tests whose answer is known -/
theorem iteY {p : Prop} [Decidable p] {A B : Prop} (hp : p) (h : A) : if decide p = true then A else B := by
  rw [decide_eq_true hp]
  exact iteT h
theorem iteN {p : Prop} [Decidable p] {A B : Prop} (hp : ¬ p) (h : B) : if decide p = true then A else B := by
  rw [decide_eq_false hp]
  exact iteF h
theorem iteNY {p : Prop} [Decidable p] {A B : Prop} (hp : ¬ p) (h : A) : if (!decide p) = true then A else B := by
  rw [decide_eq_false hp]
  exact iteT h
theorem iteNN {p : Prop} [Decidable p] {A B : Prop} (hp : p) (h : B) : if (!decide p) = true then A else B := by
  rw [decide_eq_true hp]
  exact iteF h
theorem iteE {b c : Bool} {A B : Prop} (e : b = c) (h1 : c = true → A) (h2 : c = false → B) : if b = true then A else B := by
  subst e
  cases b with
  | true => exact iteT (h1 rfl)
  | false => exact iteF (h2 rfl)
theorem dI (a b : Int) : decide (V.int a = V.int b) = decide (a = b) := by
  by_cases h : a = b
  · rw [h]; simp
  · rw [decide_eq_false h, decide_eq_false fun e => h (V.int.inj e)]
/-! ### the layer's ops as steps -/
section
variable {K : PySem.W.Frag} {H : Hp} {Q : VK} {p : Addr} {xs : List V} {i : Int} {v : V}
theorem ixl (h : H p = some (.lst xs)) (ha : atI xs i = some v) (q : Q v H) : rIxL K (.ref p) (.int i) H Q := ⟨p, xs, i, v, rfl, rfl, .inl (.inl h), ha, q⟩
theorem ixt (h : H p = some (.tup xs)) (ha : atI xs i = some v) (q : Q v H) : rIxT K (.ref p) (.int i) H Q := ⟨p, xs, i, v, rfl, rfl, .inl (.inl h), ha, q⟩
end
end Ub

namespace Ux
open PySem PySem.W PySem.Calls PyProof.Rows
/-! ### the top's facts, found in several runs -/
theorem obs_app {n : Nat} {fa1 fa2 : List He.Fa} {fn1 fn2 : List He.DefD} {ex1 ex2 : PySem.W.Frag → Bool} {g : Addr → Option Obj} {w : World} (h1 : He.obsX n fa1 fn1 [] [] ex1 g = He.valX fn1 [] w) (h2 : He.obsX n fa2 fn2 [] [] ex2 g = He.valX fn2 [] w) :
    He.obsX n (fa1 ++ fa2) (fn1 ++ fn2) [] [] (fun K => ex1 K && ex2 K) g = He.valX (fn1 ++ fn2) [] w := by
  unfold He.obsX He.valX He.obsT He.valT He.obsD He.valD He.tabsB at *
  simp only [Prod.mk.injEq, List.map_nil, List.all_nil, Bool.and_true, and_true, Bool.and_eq_true] at h1 h2 ⊢
  obtain ⟨⟨a1, a2⟩, a3⟩ := h1
  obtain ⟨⟨b1, b2⟩, b3⟩ := h2
  obtain ⟨c1, c2⟩ := a1
  obtain ⟨d1, d2⟩ := b1
  refine ⟨⟨⟨?_, ?_⟩, ?_⟩, a3, b3⟩
  · rw [List.all_append, c1, d1]; rfl
  · rw [List.all_append, c2, d2]; rfl
  · rw [List.map_append, List.map_append, a2, b2]
theorem run_app {R : OpenRow} {q : Program} {n M : Nat} {loose : List Str} {w : World} {fa1 fa2 : List He.Fa} {fn1 fn2 : List He.DefD} {ex1 ex2 : PySem.W.Frag → Bool}
    (h1 : HandSHeadRun.RunEq R q (He.hookX n fa1 fn1 [] [] ex1) (fun s => He.obsX n fa1 fn1 [] [] ex1 (HandSHeadRun.getT s)) M loose w) (h2 : HandSHeadRun.RunEq R q (He.hookX n fa2 fn2 [] [] ex2) (fun s => He.obsX n fa2 fn2 [] [] ex2 (HandSHeadRun.getT s)) M loose w) :
    HandSHeadRun.RunEq R q (He.hookX n (fa1 ++ fa2) (fn1 ++ fn2) [] [] (fun K => ex1 K && ex2 K)) (fun s => He.obsX n (fa1 ++ fa2) (fn1 ++ fn2) [] [] (fun K => ex1 K && ex2 K) (HandSHeadRun.getT s)) M loose w := by
  intro os
  have e1 := h1 os
  have e2 := h2 os
  revert e1 e2
  cases HandSHeadRun.endF (HandSHeadRun.stepQ (HandSHeadRun.denQ HandSHeadRun.tabQ) R.prog w) M R.prog w os with
  | none => intro e1 _; exact nomatch e1
  | some s =>
    intro e1 e2
    have f1 := Option.some.inj e1
    have f2 := Option.some.inj e2
    refine congrArg some ?_
    have g1 := congrArg (fun z => z.1) f1
    have g2 := congrArg (fun z => z.2.1) f1
    have k1 : He.obsX n fa1 fn1 [] [] ex1 (HandSHeadRun.getT s) = He.valX fn1 [] w := congrArg (fun z => z.2.2) f1
    have k2 : He.obsX n fa2 fn2 [] [] ex2 (HandSHeadRun.getT s) = He.valX fn2 [] w := congrArg (fun z => z.2.2) f2
    exact Prod.ext g1 (Prod.ext g2 (obs_app k1 k2))
end Ux
namespace Ux
open PySem PySem.W PySem.Calls PyProof.Rows
/-- the run, each look at its end by itself -/
noncomputable abbrev EndAt (R : OpenRow) (M : Nat) (w : World) (os : OsState) : Option SharedT := HandSHeadRun.endF (HandSHeadRun.stepQ (HandSHeadRun.denQ HandSHeadRun.tabQ) R.prog w) M R.prog w os
noncomputable abbrev lookAt (R : OpenRow) (w : World) (s : SharedT) : Bool := HandSHeadRun.looksF R.prog (boot_heap w.params) s.abs
noncomputable abbrev seenAt (R : OpenRow) (q : Program) (loose : List Str) (s : SharedT) := HandSHeadRun.seenQ q loose (importedModules R.prog.main.body) (fun s => xlAt q [] s && recOk R.toRowW.records s) s.abs
noncomputable abbrev goodAt (q : Program) (loose : List Str) := openGood q loose
theorem run_of {R : OpenRow} {q : Program} {H : Hook} {ob : SharedT → H.α} {M : Nat} {loose : List Str} {w : World}
    (h1 : ∀ os, (EndAt R M w os).map (lookAt R w) = some true) (h2 : ∀ os, (EndAt R M w os).map (seenAt R q loose) = some (goodAt q loose)) (h3 : ∀ os, (EndAt R M w os).map ob = some (H.val w)) : HandSHeadRun.RunEq R q H ob M loose w := by
  intro os
  have e1 := h1 os
  have e2 := h2 os
  have e3 := h3 os
  revert e1 e2 e3
  show (EndAt R M w os).map _ = _ → (EndAt R M w os).map _ = _ → (EndAt R M w os).map _ = _ → (EndAt R M w os).map _ = _
  cases EndAt R M w os with
  | none => intro e1 _ _; exact nomatch e1
  | some s =>
    intro e1 e2 e3
    exact congrArg some (Prod.ext (Option.some.inj e1) (Prod.ext (Option.some.inj e2) (Option.some.inj e3)))
theorem obs_of {n : Nat} {R : OpenRow} {M : Nat} {w : World} {fa1 fa2 : List He.Fa} {fn1 fn2 : List He.DefD} {ex1 ex2 : PySem.W.Frag → Bool}
    (h1 : ∀ os, (EndAt R M w os).map (fun s => He.obsX n fa1 fn1 [] [] ex1 (HandSHeadRun.getT s)) = some (He.valX fn1 [] w)) (h2 : ∀ os, (EndAt R M w os).map (fun s => He.obsX n fa2 fn2 [] [] ex2 (HandSHeadRun.getT s)) = some (He.valX fn2 [] w)) :
    ∀ os, (EndAt R M w os).map (fun s => He.obsX n (fa1 ++ fa2) (fn1 ++ fn2) [] [] (fun K => ex1 K && ex2 K) (HandSHeadRun.getT s)) = some (He.valX (fn1 ++ fn2) [] w) := by
  intro os
  have e1 := h1 os
  have e2 := h2 os
  revert e1 e2
  cases EndAt R M w os with
  | none => intro e1 _; exact nomatch e1
  | some s =>
    intro e1 e2
    exact congrArg some (obs_app (Option.some.inj e1) (Option.some.inj e2))
end Ux

namespace Uo
open PySem PySem.Spec PyProof.Rows L2 Ub
/-! ### own special methods -/
/-- an own class's method -/
structure CalK (P : Program) (w : World) (K : PySem.W.Frag) (mg : Str → Option Value) (base : Heap) (CX : CXT) (k : Nat) (C : Addr) (m : Str) (ps : List Str) (sp : Sp) : Prop where
  ex : ∃ f fd, Meth K C m f ∧ PySem.W.fnIn K f = true ∧ FnOk P w K mg base CX k f fd ps sp ∧ Binds K fd ps []
/-- what is never reached -/
theorem pe_no {X : Cx} {e : Expr} : PE X e (fun _ _ _ => False) := ⟨fun _ _ _ _ _ _ h => h.elim⟩
theorem pt_no {X : Cx} {e : Expr} : PT X e (fun _ _ _ => False) := ⟨fun _ _ _ _ _ _ h => h.elim⟩
theorem ps_no {X : Cx} {st : Stmt} : PS X st (fun _ _ _ => False) := ⟨fun _ _ _ _ _ _ h => h.elim⟩
theorem pas0 {X : Cx} {σ : L2.St} {E : XK} : PassesAt CX0 X σ E := fun _ _ _ _ _ _ h => h.elim
section
variable {X : Cx} {CX : CXT} {k : Nat} {f C : Addr} {fd : FuncData} {ps : List Str} {sp : Sp} {E : XK}
theorem run_fnA {pins : List (Addr × Obj)} {σ : L2.St} {H : Hp} {s : Shared} {Q : VK} {us : List Value} {vs : List V} (F : FnOk X.prog X.w X.K X.mg X.base CX k f fd ps sp) (hr : Room k X.A) (hb : Binds X.K fd ps []) (hx : PassesAt CX X σ E)
    (I : Inv X pins σ H s) (r : Vals vs us) (h : sp vs H Q E) : wpAny (model X.prog X.w) X.A (call (.ref f) us) (EP X pins σ Q) X.xe s := by
  have hl : us.length = ps.length := by rw [← r.length]; exact F.len _ _ _ _ h
  have bi := hb s us I.kIn (by rw [List.append_nil]; exact hl)
  rw [List.append_nil] at bi
  refine wpAny_call (codeAny_mono (F.run X.A X.stack s H ⟨us, []⟩ us vs Q E hr I.env0 bi r h) fun r s' hq => ?_)
  match r, hq with
  | .error e, hq => exact hx pins H s e s' I hq
  | .ok (.ret u), hq => exact I.after hq
theorem run_fn1 {pins : List (Addr × Obj)} {σ : L2.St} {H : Hp} {s : Shared} {Q : VK} {us : List Value} {vs : List V} (F : FnOk X.prog X.w X.K X.mg X.base CX k f fd ps sp) (hr : Room (k + 1) X.A) (hb : Binds X.K fd ps []) (hx : PassesAt CX X σ E)
    (I : Inv X pins σ H s) (r : Vals vs us) (h : sp vs H Q E) : wpAny (model X.prog X.w) X.A.in1 (call (.ref f) us) (EP X pins σ Q) X.xe s := by
  have hl : us.length = ps.length := by rw [← r.length]; exact F.len _ _ _ _ h
  have bi := hb s us I.kIn (by rw [List.append_nil]; exact hl)
  rw [List.append_nil] at bi
  refine wpAny_call (codeAny_mono (F.run X.A.in1 X.stack s H ⟨us, []⟩ us vs Q E hr.in1 I.env0.in1 bi r h) fun r s' hq => ?_)
  match r, hq with
  | .error e, hq => exact hx pins H s e s' I hq
  | .ok (.ret u), hq => exact I.after hq
theorem run_fn2 {pins : List (Addr × Obj)} {σ : L2.St} {H : Hp} {s : Shared} {Q : VK} {us : List Value} {vs : List V} (F : FnOk X.prog X.w X.K X.mg X.base CX k f fd ps sp) (hr : Room (k + 2) X.A) (hb : Binds X.K fd ps []) (hx : PassesAt CX X σ E)
    (I : Inv X pins σ H s) (r : Vals vs us) (h : sp vs H Q E) : wpAny (model X.prog X.w) X.A.in1.in1 (call (.ref f) us) (EP X pins σ Q) X.xe s := by
  have hl : us.length = ps.length := by rw [← r.length]; exact F.len _ _ _ _ h
  have bi := hb s us I.kIn (by rw [List.append_nil]; exact hl)
  rw [List.append_nil] at bi
  refine wpAny_call (codeAny_mono (F.run X.A.in1.in1 X.stack s H ⟨us, []⟩ us vs Q E hr.in1.in1 I.env0.in1.in1 bi r h) fun r s' hq => ?_)
  match r, hq with
  | .error e, hq => exact hx pins H s e s' I hq
  | .ok (.ret u), hq => exact I.after hq
theorem inst_of {pins : List (Addr × Obj)} {σ : L2.St} {H : Hp} {s : Shared} {a dx : Addr} {fs : List (Str × V)} (I : Inv X pins σ H s) (ea : H a = some (.ins C dx fs)) : ∃ ox od, PySem.W.InstAt s.heap a ox C od := by
  obtain ⟨mA, O, _⟩ := ins_get I.hok ea
  obtain ⟨od, J, _⟩ := O.look
  exact ⟨_, _, J⟩
/-! ### in -/
theorem contains_own {prog : Program} {w : World} {A : Around} {Ee : Value → Shared → Prop} {s : Shared} {K : PySem.W.Frag} {x C f : Addr} {ox : Obj} {od : Option Obj} {v : Value} {Q : Bool → Shared → Prop} (X : K.In s.heap) (I : PySem.W.InstAt s.heap x ox C od) (M : Meth K C "__contains__" f)
    (h : wpAny (model prog w) A (call (.ref f) [.ref x, v]) (fun r s' => wpAny (model prog w) A (truthy r) Q Ee s') Ee s) : wpAny (model prog w) A (contains (.ref x) v) Q Ee s := by
  unfold contains
  refine wpAny_holding (wpAny_bind (wpAny_bind (I.type.here ((PySem.W.looks_findIn X M.at_).here ?_))))
  rw [if_neg (by simp)]
  exact wpAny_bind (PySem.W.unlessNone_K X I M.at_ M.fn h)
def rInO (C : Addr) (sp : Sp) (E : XK) (g : Bool → Bool) : R2 := fun x y H Q => ∃ a dx fs, y = .ref a ∧ H a = some (.ins C dx fs) ∧ sp [.ref a, x] H (fun v H' => ∃ b, v = .bl b ∧ Q (.bl (g b)) H') E
theorem op_inO (c : CalK X.prog X.w X.K X.mg X.base CX k C "__contains__" ps sp) (hx : ∀ σ, PassesAt CX X σ E) (hr : Room k X.A) : OpR X (compareOp .In) (rInO C sp E fun b => b) := by
  obtain ⟨f, fd, M, _, F, hb⟩ := c.ex
  intro pins s σ H x y v u Q I rx ry h
  obtain ⟨a, dx, fs, rfl, ea, q⟩ := h
  cases ry
  obtain ⟨ox, od, J⟩ := inst_of I ea
  refine wpAny_bind (contains_own I.kIn J M (wpAny_mono (run_fnA (vs := [.ref a, x]) F hr hb (hx σ) I (.cons rfl (.cons rx .nil)) q) (fun r s' z => ?_) fun _ _ z => z))
  obtain ⟨z, H', I', rz, b, rfl, q'⟩ := z
  cases rz
  exact wpAny_truthy_bool (wpAny_pure ⟨.bl b, H', I', rfl, q'⟩)
theorem op_notInO (c : CalK X.prog X.w X.K X.mg X.base CX k C "__contains__" ps sp) (hx : ∀ σ, PassesAt CX X σ E) (hr : Room k X.A) : OpR X (compareOp .NotIn) (rInO C sp E fun b => !b) := by
  obtain ⟨f, fd, M, _, F, hb⟩ := c.ex
  intro pins s σ H x y v u Q I rx ry h
  obtain ⟨a, dx, fs, rfl, ea, q⟩ := h
  cases ry
  obtain ⟨ox, od, J⟩ := inst_of I ea
  refine wpAny_bind (contains_own I.kIn J M (wpAny_mono (run_fnA (vs := [.ref a, x]) F hr hb (hx σ) I (.cons rfl (.cons rx .nil)) q) (fun r s' z => ?_) fun _ _ z => z))
  obtain ⟨z, H', I', rz, b, rfl, q'⟩ := z
  cases rz
  exact wpAny_truthy_bool (wpAny_pure ⟨.bl (!b), H', I', rfl, q'⟩)
/-! ### o[i] -/
theorem sub_own {prog : Program} {w : World} {A : Around} {Ee : Value → Shared → Prop} {s : Shared} {K : PySem.W.Frag} {x C f : Addr} {ox : Obj} {od : Option Obj} {value slice : Expr} {i : Value} {Q : Value → Shared → Prop} (X : K.In s.heap) (I : PySem.W.InstAt s.heap x ox C od) (M : Meth K C "__getitem__" f) (hf : PySem.W.fnIn K f = true)
    (h : wpAny (model prog w) A.in1 (call (.ref f) [.ref x, i]) Q Ee s)
    (hsl : subscripted slice true (.ref x) i = runValue (.builtin "lifetime.subscript" ⟨[.ref x, i], []⟩)) :
    wpAny (model prog w) A (subscriptTail value slice (.ref x) i) Q Ee s := by
  unfold PySem.W.fnIn at hf
  split at hf
  · rename_i e
    unfold subscriptTail getitemInPython
    refine wpAny_bind (wpAny_bind (wpAny_bind (I.type.here ((PySem.W.looks_findIn X M.at_).here ?_))))
    dsimp only
    refine wpAny_bind (wpAny_load (X _ _ e) (wpAny_pure ?_))
    dsimp only
    rw [hsl]
    refine wpAny_bind (wpAny_runValue (codeAny_builtin PySem.W.entry_sub ?_))
    unfold Builtin.«lifetime.subscript»
    refine wpAny_bind (PySem.W.special_fn X I M.at_ (beq_iff_eq.mp M.fn) (wpAny_mono h (fun v s' z => ?_) fun _ _ z => z))
    refine wpAny_pure ?_
    show wpAny (model prog w) A (letTemporaryGo value (.ref x) v >>= fun _ => pure v) Q Ee s'
    exact wpAny_bind (wpAny_letTemporaryGo (wpAny_pure z))
  · cases hf
def OwnIx (b : Expr) : Prop := ∀ (o : Addr) i, subscripted b true (.ref o) i = runValue (.builtin "lifetime.subscript" ⟨[.ref o, i], []⟩)
def tIxO (C : Addr) (sp : Sp) (E : L2.St → XK) (ta tb : TE) : TE := fun σ H Q => ta σ H fun x H1 => tb σ H1 fun y H2 => ∃ a dx fs, x = .ref a ∧ H2 a = some (.ins C dx fs) ∧ sp [.ref a, y] H2 Q (E σ)
theorem pe_ixO {E : L2.St → XK} {a b : Expr} {ta tb : TE} {pos : Pos} (c : CalK X.prog X.w X.K X.mg X.base CX k C "__getitem__" ps sp) (hx : ∀ σ, PassesAt CX X σ (E σ)) (hr : Room (k + 1) X.A) (ha : PE X a ta) (hb : PE X b tb) (hs : OwnIx b) : PE X (.Subscript a b pos) (tIxO C sp E ta tb) := by
  obtain ⟨f, fd, M, hf, F, hbi⟩ := c.ex
  refine ⟨fun pins s σ H Q I h => ?_⟩
  refine Subscript_ (thn (ha.run pins s σ H _ I h) fun v s1 ⟨x, H1, I1, r1, q1⟩ => thn (hb.run pins s1 σ H1 _ I1 q1) fun u s2 ⟨y, H2, I2, r2, q2⟩ => ?_)
  obtain ⟨p, dx, fs, rfl, ea, q⟩ := q2
  cases r1
  obtain ⟨ox, od, J⟩ := inst_of I2 ea
  exact sub_own I2.kIn J M hf (run_fn1 (vs := [.ref p, y]) F hr hbi (hx σ) I2 (.cons rfl (.cons r2 .nil)) q) (hs p u)
/-! ### o[i] = e -/
theorem setItem_own {prog : Program} {w : World} {A : Around} {Ee : Value → Shared → Prop} {s : Shared} {K : PySem.W.Frag} {x C f : Addr} {ox : Obj} {od : Option Obj} {i v : Value} {Q : Unit → Shared → Prop} (X : K.In s.heap) (I : PySem.W.InstAt s.heap x ox C od) (hq : PySem.W.noSeq K C = true) (M : Meth K C "__setitem__" f)
    (h : wpAny (model prog w) A (call (.ref f) [.ref x, i, v]) (fun _ s' => Q () s') Ee s) : wpAny (model prog w) A (setItem (.ref x) i v) Q Ee s := by
  unfold setItem sequenceKey
  refine wpAny_holding (wpAny_bind (wpAny_bind (I.type.here ?_)))
  refine wpAny_bind ((PySem.W.anyM_none X hq).here ?_)
  rw [if_pos (show (!false) = true from rfl)]
  exact wpAny_pure (wpAny_bind (PySem.W.special_fn X I M.at_ (beq_iff_eq.mp M.fn) (wpAny_mono h (fun _ _ z => wpAny_pure z) fun _ _ z => z)))
/-! ### str(o) -/
def rStrO (C : Addr) (sp : Sp) (E : XK) : List V → Hp → VK → Prop := fun xs H Q => ∃ a dx fs, xs = [.ref a] ∧ H a = some (.ins C dx fs) ∧ sp [.ref a] H (fun v H' => ∃ z : Str, v = .str z ∧ Q (.str z) H') E
theorem call_strO (c : CalK X.prog X.w X.K X.mg X.base CX k C "__str__" ps sp) (hx : ∀ σ, PassesAt CX X σ E) (hr : Room (k + 2) X.A) (hu : X.A.units + 4 < cLine) : CallR X (.type "str") (rStrO C sp E) := by
  obtain ⟨f, fd, M, _, F, hb⟩ := c.ex
  intro pins s σ H xs us Q I r h
  obtain ⟨a, dx, fs, rfl, ea, q⟩ := h
  obtain ⟨u, rfl, ru⟩ := vals1 r
  cases ru
  obtain ⟨ox, od, J⟩ := inst_of I ea
  refine PySem.W.kso_call (by show X.A.units + 1 + 1 < cLine; omega) I.kIn J M.at_ M.fn (wpAny_mono (run_fn2 (vs := [.ref a]) F hr hb (hx σ) I (.cons rfl .nil) q) (fun r s' z => ?_) fun _ _ z => z)
  obtain ⟨z, H', I', rz, b, rfl, q'⟩ := z
  obtain ⟨t, rfl⟩ := rz
  exact ⟨.str b, H', I', ⟨t, rfl⟩, q'⟩
/-! ### ==, != -/
/-- the kind of a value beside an own one -/
inductive TyQ (H : Hp) : V → Value → Prop
  | non : TyQ H .non (.type "NoneType")
  | bl (b : Bool) : TyQ H (.bl b) (.type "bool")
  | int (i : Int) : TyQ H (.int i) (.type "int")
  | str (z : Str) : TyQ H (.str z) (.type "str")
  | lst {a : Addr} {xs : List V} (e : H a = some (.lst xs)) : TyQ H (.ref a) (.type "list")
  | tup {a : Addr} {xs : List V} (e : H a = some (.tup xs)) : TyQ H (.ref a) (.type "tuple")
  | ins {a C dx : Addr} {fs : List (Str × V)} (e : H a = some (.ins C dx fs)) : TyQ H (.ref a) (.ref C)
theorem looks_ref {M : Model} {h : Heap} {a : Addr} {o : Obj} {t : Value} (ho : h.get? a = some o) (hc : o.cls = t) : PySem.W.Looks M h (typeOf (.ref a)) t := fun A Q E s k q => wpAny_typeOf_ref (k _ _ ho) (by rw [hc]; exact q)
theorem TyQ.looks {pins : List (Addr × Obj)} {σ : L2.St} {H : Hp} {s : Shared} (I : Inv X pins σ H s) {y : V} {u t : Value} (h : TyQ H y t) (r : RelV y u) : PySem.W.Looks (model X.prog X.w) s.heap (typeOf u) t := by
  cases h with
  | non => obtain rfl : u = Value.none := r; exact .of_pure rfl
  | bl b => obtain rfl : u = Value.bool b := r; exact .of_pure rfl
  | int i => obtain ⟨t, rfl⟩ := r; exact .of_pure rfl
  | str z => obtain ⟨t, rfl⟩ := r; exact .of_pure rfl
  | lst e =>
    rename_i a xs
    obtain rfl : u = Value.ref a := r
    obtain ⟨_, its, n, rv, hg⟩ : ObjOk X.prog X.w H s.heap a (.lst xs) := I.hok a _ e
    exact looks_ref hg rfl
  | tup e =>
    rename_i a xs
    obtain rfl : u = Value.ref a := r
    obtain ⟨_, its, rv, o, hg, hc, n, hd⟩ : ObjOk X.prog X.w H s.heap a (.tup xs) := I.hok a _ e
    exact looks_ref hg hc
  | ins e =>
    rename_i a C dx fs
    obtain rfl : u = Value.ref a := r
    obtain ⟨ox, od, J⟩ := inst_of I e
    exact J.type
def kinds0 : List Value := [.type "NoneType", .type "bool", .type "int", .type "str", .type "list", .type "tuple"]
/-- beside such values the own class's method is asked first -/
def NF (K : PySem.W.Frag) (C : Addr) : Prop := ∀ t ∈ kinds0, PySem.W.notFirst K C t = true
def nfB (K : PySem.W.Frag) (C : Addr) : Bool := kinds0.all fun t => PySem.W.notFirst K C t
theorem nfB_ok {K : PySem.W.Frag} {C : Addr} (h : nfB K C = true) : NF K C := List.all_eq_true.mp h
/-- a value of another kind, or of the class itself -/
def TyB (C : Addr) (H : Hp) (y : V) : Prop := ∃ t, TyQ H y t ∧ (t ∈ kinds0 ∨ t = .ref C)
theorem TyB.ins {C a dx : Addr} {H : Hp} {fs : List (Str × V)} (e : H a = some (.ins C dx fs)) : TyB C H (.ref a) := ⟨_, .ins e, .inr rfl⟩
theorem NF.of {K : PySem.W.Frag} {C : Addr} {t : Value} (n : NF K C) (h : t ∈ kinds0 ∨ t = .ref C) : PySem.W.notFirst K C t = true := by
  rcases h with h | h
  · exact n t h
  · rw [h]
    unfold PySem.W.notFirst
    simp
theorem cmp_own {prog : Program} {w : World} {A : Around} {Ee : Value → Shared → Prop} {s : Shared} {K : PySem.W.Frag} {x C : Addr} {ox : Obj} {od : Option Obj} {b tb : Value} {op : CmpOp} {Q : Value → Shared → Prop} (hu : A.units < cLine) (X : K.In s.heap) (I : PySem.W.InstAt s.heap x ox C od) (hb : PySem.W.Looks (model prog w) s.heap (typeOf b) tb) (hn : PySem.W.notFirst K C tb = true)
    (one : wpAny (model prog w) A (tryCompare (.ref x) (cmpInfo op).2.1 b) (fun r s' => ∃ v, r = some v ∧ Q v s') Ee s) : wpAny (model prog w) A (richCompare op (.ref x) b) Q Ee s := by
  unfold richCompare
  simp only [oneThing_ref]
  refine wpAny_holding (wpAny_bind (wpAny_cRoomFor hu ?_))
  refine wpAny_bind (I.type.here (wpAny_bind (hb.here ?_)))
  split
  · rename_i q
    have e : PySem.W.subIn K tb (.ref C) = some false := by
      rcases Bool.or_eq_true_iff.mp hn with e | e
      · rw [beq_iff_eq.mp e] at q; simp at q
      · exact beq_iff_eq.mp e
    refine wpAny_bind ((PySem.W.looks_subIn X e).here ?_)
    simp only [Bool.false_eq_true, if_false]
    refine wpAny_bind (wpAny_mono one (fun r s' z => ?_) fun _ _ e => e)
    obtain ⟨v, rfl, hq⟩ := z
    exact wpAny_pure hq
  · refine wpAny_bind (wpAny_pure ?_)
    simp only [Bool.false_eq_true, if_false]
    refine wpAny_bind (wpAny_mono one (fun r s' z => ?_) fun _ _ e => e)
    obtain ⟨v, rfl, hq⟩ := z
    exact wpAny_pure hq
def rEqO (C : Addr) (sp : Sp) (E : XK) (g : Bool → Bool) : R2 := fun x y H Q => ∃ a dx fs, x = .ref a ∧ H a = some (.ins C dx fs) ∧ TyB C H y ∧ sp [.ref a, y] H (fun v H' => ∃ b, v = .bl b ∧ Q (.bl (g b)) H') E
theorem op_eqO (c : CalK X.prog X.w X.K X.mg X.base CX k C "__eq__" ps sp) (nf : NF X.K C) (hx : ∀ σ, PassesAt CX X σ E) (hr : Room k X.A) (hu : X.A.units < cLine) : OpR X (compareOp .Eq) (rEqO C sp E fun b => b) := by
  obtain ⟨f, fd, M, _, F, hb⟩ := c.ex
  intro pins s σ H x y v u Q I rx ry h
  obtain ⟨a, dx, fs, rfl, ea, ⟨t, ht, hk⟩, q⟩ := h
  cases rx
  obtain ⟨ox, od, J⟩ := inst_of I ea
  show wpAny _ _ (richCompare .Eq (.ref a) u) _ _ _
  refine cmp_own hu I.kIn J (ht.looks I ry) (nf.of hk) ?_
  unfold tryCompare
  refine wpAny_bind (PySem.W.ifBound_K I.kIn J M.at_ M.fn (wpAny_mono (run_fnA (vs := [.ref a, y]) F hr hb (hx σ) I (.cons rfl (.cons ry .nil)) q) (fun r s' z => ?_) fun _ _ z => z))
  obtain ⟨z, H', I', rz, b, rfl, q'⟩ := z
  cases rz
  exact wpAny_pure ⟨_, rfl, .bl b, H', I', rfl, q'⟩
/-- the class has no __ne__ of its own -/
structure NoNe (K : PySem.W.Frag) (C : Addr) : Prop where
  at_ : PySem.W.findIn K (.ref C) "__ne__" = some (some (.builtin "object.__ne__"))
  ob : PySem.W.mroIn K C (.type "object") = some true
def noNeB (K : PySem.W.Frag) (C : Addr) : Bool := decide (PySem.W.findIn K (.ref C) "__ne__" = some (some (.builtin "object.__ne__"))) && decide (PySem.W.mroIn K C (.type "object") = some true)
theorem noNeB_ok {K : PySem.W.Frag} {C : Addr} (h : noNeB K C = true) : NoNe K C := ⟨of_decide_eq_true (Bool.and_eq_true_iff.mp h).1, of_decide_eq_true (Bool.and_eq_true_iff.mp h).2⟩
theorem bind_ne (self : Value) : bindSpecial (.builtin "object.__ne__") self = pure (.builtin "object.__ne__", [self]) := by kernel_rfl
theorem op_neO (c : CalK X.prog X.w X.K X.mg X.base CX k C "__eq__" ps sp) (nf : NF X.K C) (nn : NoNe X.K C) (hx : ∀ σ, PassesAt CX X σ E) (hr : Room (k + 1) X.A) (hu : X.A.units + 4 < cLine) : OpR X (compareOp .NotEq) (rEqO C sp E fun b => !b) := by
  obtain ⟨f, fd, M, _, F, hb⟩ := c.ex
  intro pins s σ H x y v u Q I rx ry h
  obtain ⟨a, dx, fs, rfl, ea, ⟨t, ht, hk⟩, q⟩ := h
  cases rx
  obtain ⟨ox, od, J⟩ := inst_of I ea
  show wpAny _ _ (richCompare .NotEq (.ref a) u) _ _ _
  refine cmp_own (by omega) I.kIn J (ht.looks I ry) (nf.of hk) ?_
  unfold tryCompare
  simp only [callSpecialIfBound?, bindSpecialIfBound?]
  refine wpAny_bind (wpAny_holding (wpAny_bind (wpAny_bind (wpAny_bind (J.type.here ((PySem.W.looks_findIn I.kIn nn.at_).here ?_))))))
  refine wpAny_bind (wpAny_askSetting (wpAny_ite ?_))
  have body : wpAny (model X.prog X.w) X.A (call (.builtin "object.__ne__") ([.ref a] ++ [u]) >>= fun v => pure (some v)) (fun r s' => wpAny (model X.prog X.w) X.A (match r with
      | some .notImplemented | none => pure none
      | some v => pure (some v)) (fun r s' => ∃ v, r = some v ∧ EP X pins σ Q v s') X.xe s') X.xe s := by
    refine wpAny_bind (wpAny_call (codeAny_call_builtin (by decide +kernel) PySem.F.cmpEntry_ne (PySem.W.check_slot (i := "object.__ne__") (owner := "object") (n := "__ne__") (by decide +kernel) (by decide +kernel) (J.type.andThen (PySem.W.looks_mroIn I.kIn nn.ob)) (PySem.F.cmpArgs_ne _ _) ?_)))
    unfold Builtin.«object.__ne__»
    refine wpAny_bind (m := slotArgs "__ne__" 1 _) (wpAny_pure ?_)
    refine wpAny_bind (m := cRoomFor _ _) (wpAny_cRoomFor (by show X.A.units + 1 < cLine; omega) ?_)
    refine wpAny_bind (m := callSpecialIfBound? (.ref a) (Str.ofString "__eq__") _) (PySem.W.ifBound_K I.kIn J M.at_ M.fn (wpAny_mono (run_fn1 (vs := [.ref a, y]) F hr hb (hx σ) I (.cons rfl (.cons ry .nil)) q) (fun r s' z => ?_) fun _ _ z => z))
    obtain ⟨z, H', I', rz, b, rfl, q'⟩ := z
    cases rz
    refine wpAny_bind (m := truthy (.bool b)) (wpAny_truthy_bool ?_)
    exact wpAny_pure (wpAny_pure (wpAny_pure ⟨_, rfl, .bl (!b), H', I', rfl, q'⟩))
  split
  · exact wpAny_bind ((PySem.W.Looks.of_pure (bind_ne _)).here (wpAny_pure (by exact body)))
  · exact wpAny_tryCatch (wpAny_bind ((PySem.W.Looks.of_pure (bind_ne _)).here (wpAny_pure (by exact body))))
end
/-! ### a class whose __init__ has a star -/
structure CalR (P : Program) (w : World) (K : PySem.W.Frag) (mg : Str → Option Value) (base : Heap) (k : Nat) (x : Str) (C : Addr) (sp : Sp) : Prop where
  ex : ∃ f, Mk K C f ∧ FnR P w K mg base (L2.CX P w) k f sp ∧ mg x = some (.ref C)
def tMakeT (C : Addr) (sp : Sp) (E : L2.St → XK) (t : TA) : TE := fun σ H Q => t σ H fun vs H1 => ∀ x dx, H1 x = none → H1 dx = none → dx ≠ x → sp (.ref x :: vs) (upd (upd H1 dx (.own x)) x (.ins C dx [])) (fun v H2 => v = .non ∧ Q (.ref x) H2) (E σ)
theorem pe_makeRS {X : Cx} {k : Nat} {x : Str} {C : Addr} {sp : Sp} {e : Expr} {es : List Expr} {p pos : Pos} {t : TA} {E : L2.St → XK} (c : CalR X.prog X.w X.K X.mg X.base k x C sp) (hx : ∀ σ, PassesAt (L2.CX X.prog X.w) X σ (E σ)) (hr : Room (k + 1) X.A) (hg : Gl X x)
    (ha : PA X (e :: es) t) (hdb : (x == ("__debug__" : Str)) = false := by decide) (he : starEach (e :: es) X.env = (false, eval e X.env) :: starEach es X.env := by rfl) (hpl : (backTo pos (starEach es X.env)).any (·.1) = false := by rfl) :
    PE X (.Call (.Name x p) (e :: es) [] pos) (tMakeT C sp E t) := by
  obtain ⟨f, M, F, hm⟩ := c.ex
  refine ⟨fun pins s σ H Q I h => wpAny_Call_Name_kw (ld_glob I hg hm ?_ hdb)⟩
  refine PySem.W.callWith_K (h₀ := X.base) I.ok.mod.kin M.kp (thn (ha.run pos pins s σ H _ I h) fun us s1 ⟨vs, H1, J, rv, q⟩ => ⟨J.kIn, ?_⟩) he hpl
  have z := q (s1.heap.objs.size + 1) s1.heap.objs.size (J.hok.fresh (Nat.le_succ _)) (J.hok.fresh (Nat.le_refl _)) (Nat.ne_of_lt (Nat.lt_succ_self _))
  have J2 := Inv.made (C := C) J
  have r2 : Vals (V.ref (s1.heap.objs.size + 1) :: vs) (Value.ref (s1.heap.objs.size + 1) :: us) := .cons rfl rv
  refine wpAny_call (make_map (f := f) J.kIn M.makes M.init (beq_iff_eq.mp M.fn) (codeAny_mono (F _ X.stack _ _ (Value.ref (s1.heap.objs.size + 1) :: us) _ _ (E σ) (hr.make C us []) (J2.env0.make C us []) r2 z) fun r s2 hq => ?_))
  match r, hq with
  | .error e, hq => exact hx σ pins _ _ e s2 J2 hq
  | .ok (.ret u), hq =>
    obtain ⟨v, H2, J3, r3, ev, q3⟩ := J2.after hq
    subst ev
    exact ⟨r3, .ref _, H2, J3, rfl, q3⟩
theorem starOk {CX : CXT} {P : Program} {w : World} {K : PySem.W.Frag} {mg : Str → Option Value} {base : Heap} {x qual : Str} {params : Arguments} {body : List Stmt} {scope : Scope} {kws : List (Str × V)} {f : Addr} {fd : FuncData} {N : List Str} {ps : List Str} {pv' : Str} {k : Nat} {sp : Sp} (F : FunD K x qual params body scope [] kws f fd) (S : FnScope N (ps ++ [pv']) scope) (hCX : StX.CXUp CX)
    (hb : ∀ (kV doc pm : Value) (an : Option Addr) (cdv ct : Value) (us rest : List Value), us.length = ps.length → bindArgs (PySem.W.fnOf x qual params body scope .none kV doc pm an cdv ct) ⟨us ++ rest, []⟩ = (newTuple rest >>= fun t => pure (ps.zip us ++ [(pv', t)])))
    (hbody : ∀ (cdv : Value) (A : Around) (outer : List Env) (s : Shared) (H : Hp) (vs : List V) (Q : VK) (E : XK), Room k (A.deeper (envOfC qual scope s.heap.objs.size f cdv)) → sp vs H Q E →
      ∃ t, PSs (cxOf CX P w K mg base N qual scope f cdv A outer s H E) body t ∧ t { nx := fun _ H' => Q .non H', rt := Q } (start N vs) H) :
    FnR P w K mg base CX (k + 1) f (fun vs H Q E => ∃ ws rest, vs = ws ++ rest ∧ ws.length = ps.length ∧ rest.length ≤ sizeLine ∧ ∀ p, H p = none → sp (ws ++ [V.ref p]) (upd H p (.tup rest)) Q E) := by
  obtain ⟨oc, od, dV, kV, doc, pm, an, cdv, ct, osl, rfl, lk, hcd, hD, hK⟩ := F.ex
  rcases hD with ⟨_, rfl⟩ | ⟨e, _⟩
  · exact StX.fn_star lk hcd S hCX (fun us rest hl => hb kV doc pm an cdv ct us rest hl) fun A outer s H vs Q E hr h => hbody cdv A outer s H vs Q E hr h
  · exact absurd rfl e
end Uo

namespace Vk
open PySem PySem.Spec PyProof.Rows L2 Ub
/-! ### the top's facts with the getters of properties -/
/-- where a property's getter stands -/
def gAd (K : PySem.W.Frag) (x f : Str) : Addr := He5.wf K (He.ga K x) "property" f
def exP (ex : PySem.W.Frag → Bool) (pn : List He5.DefA) (K : PySem.W.Frag) : Bool := ex K && pn.all fun d => d.ok K
def fnP (pn : List He5.DefA) (K : PySem.W.Frag) : List He.FnW := pn.map fun d => He5.fnA K (d.at_ K)
abbrev AlP : Type := He.AlX × List He.FnW
def obsP (n : Nat) (fa : List He.Fa) (fn : List He.DefD) (pn : List He5.DefA) (ex : PySem.W.Frag → Bool) (g : Addr → Option Obj) : AlP := (He.obsX n fa fn [] [] (exP ex pn) g, fnP pn (He.frT g (He.asD g n)))
def valP (fn : List He.DefD) (pn : List He5.DefA) (w : World) : AlP := (He.valX fn [] w, pn.map He5.DefA.val)
structure SaysP (fa : List He.Fa) (fn : List He.DefD) (pn : List He5.DefA) (ex : PySem.W.Frag → Bool) (w : World) (h : Heap) (K : PySem.W.Frag) : Prop where
  x : He.SaysX fa fn [] [] (exP ex pn) w h K
  p : fnP pn K = pn.map He5.DefA.val
def hookP (n : Nat) (fa : List He.Fa) (fn : List He.DefD) (pn : List He5.DefA) (ex : PySem.W.Frag → Bool) : PySem.W.Hook where
  α := AlP
  obs := fun s => obsP n fa fn pn ex s.heap.get?
  val := fun w => valP fn pn w
  says := fun w h => ∃ K : PySem.W.Frag, K.In h ∧ SaysP fa fn pn ex w h K
  of := fun _ _ e => ⟨_, He.frT_in, He.saysX_of (congrArg (fun z : AlP => z.1) e), congrArg (fun z : AlP => z.2) e⟩
  keeps := fun _ _ _ ⟨K, hK, c⟩ k => ⟨K, PySem.W.Frag.In.keeps hK k, ⟨c.x.t, c.x.more, c.x.hd, c.x.out, fun p hp => k _ _ (c.x.empty p hp)⟩, c.p⟩
theorem obsP_eq {n : Nat} {fa : List He.Fa} {fn : List He.DefD} {pn : List He5.DefA} {ex : PySem.W.Frag → Bool} {g : Addr → Option Obj} {s : Shared} (h : ∀ a, g a = s.heap.get? a) : obsP n fa fn pn ex g = (hookP n fa fn pn ex).obs s := by
  have e : g = s.heap.get? := funext h
  rw [e] <;> rfl
section
variable {fa : List He.Fa} {fn : List He.DefD} {pn : List He5.DefA} {ex : PySem.W.Frag → Bool} {w : World} {h : Heap} {K : PySem.W.Frag}
theorem SaysP.more (c : SaysP fa fn pn ex w h K) : ex K = true := (He.ba c.x.more).1
theorem SaysP.get (c : SaysP fa fn pn ex w h K) (i : Nat) {d : He5.DefA} (hd : pn[i]? = some d := by rfl) : ∃ fd, FunD K d.name d.qual d.params d.body d.scope (d.dvs K) (d.kws K) (d.at_ K) fd := by
  have c2 := (He.ba c.x.more).2
  have e2 : (pn.map fun d => He5.fnA K (d.at_ K))[i]? = (pn.map He5.DefA.val)[i]? := by rw [← c.p]; rfl
  rw [List.getElem?_map, List.getElem?_map, hd] at e2
  exact He5.DefA.funD (Option.some.inj e2) (List.all_eq_true.mp c2 d (List.mem_of_getElem? hd))
/-- in parts -/
theorem obsP_of {n : Nat} {R : PySem.W.OpenRow} {M : Nat} {ex1 : PySem.W.Frag → Bool} (hx : ∀ K, (ex1 K = true) → exP ex pn K = true)
    (h1 : ∀ os, (Ux.EndAt R M w os).map (fun s => He.obsX n fa fn [] [] ex1 (HandSHeadRun.getT s)) = some (He.valX fn [] w)) (h2 : ∀ os, (Ux.EndAt R M w os).map (fun s => fnP pn (He.frT (HandSHeadRun.getT s) (He.asD (HandSHeadRun.getT s) n))) = some (pn.map He5.DefA.val)) :
    ∀ os, (Ux.EndAt R M w os).map (fun s => obsP n fa fn pn ex (HandSHeadRun.getT s)) = some (valP fn pn w) := by
  intro os
  have e1 := h1 os
  have e2 := h2 os
  revert e1 e2
  cases Ux.EndAt R M w os with
  | none => intro e1 _; exact nomatch e1
  | some s =>
    intro e1 e2
    refine congrArg some (Prod.ext ?_ (Option.some.inj e2))
    have f1 := Option.some.inj e1
    have a1 : He.obsT fa fn [] _ = _ := congrArg (fun z : He.AlX => z.1) f1
    have a2 : (ex1 (He.frT (HandSHeadRun.getT s) (He.asD (HandSHeadRun.getT s) n)) && He.tabsB (HandSHeadRun.getT s) [] (He.frT (HandSHeadRun.getT s) (He.asD (HandSHeadRun.getT s) n))) = true := congrArg (fun z : He.AlX => z.2) f1
    refine Prod.ext a1 ?_
    show (exP ex pn _ && He.tabsB _ [] _) = true
    rw [hx _ (He.ba a2).1, (He.ba a2).2]
    rfl
end
/-! ### a property of an own class -/
structure PropB (K : PySem.W.Frag) (x f : Str) : Prop where
  ex : PropOf K (He.ga K x) f (He.ma K (He.ga K x) f) (gAd K x f)
def propB (K : PySem.W.Frag) (x f : Str) : Bool := decide (PySem.W.findIn K (.ref (He.ga K x)) f = some (some (.ref (He.ma K (He.ga K x) f)))) && (decide (PySem.W.specialIn K (.ref (He.ma K (He.ga K x) f)) "__get__" = some (some (.builtin "property.__get__"))) && (decide (PySem.W.takesIn K (.ref (He.ma K (He.ga K x) f)) = some true) &&
  (match PySem.W.recIn K (He.ma K (He.ga K x) f) "property" with | some (.ref _ :: _) => true | _ => false)))
theorem propB_ok {K : PySem.W.Frag} {x f : Str} (h : propB K x f = true) : PropB K x f := by
  unfold propB at h
  obtain ⟨h1, h⟩ := Bool.and_eq_true_iff.mp h
  obtain ⟨h2, h⟩ := Bool.and_eq_true_iff.mp h
  obtain ⟨h3, h⟩ := Bool.and_eq_true_iff.mp h
  refine ⟨of_decide_eq_true h1, of_decide_eq_true h2, of_decide_eq_true h3, ?_⟩
  unfold gAd He5.wf
  split at h
  · rename_i g' r hr
    exact ⟨r, by rw [hr]⟩
  · cases h
structure CalP (P : Program) (w : World) (K : PySem.W.Frag) (mg : Str → Option Value) (base : Heap) (k : Nat) (C : Addr) (f : Str) (sp : Sp) : Prop where
  ex : ∃ p g fd, PropOf K C f p g ∧ Cls K C ∧ FnOk P w K mg base CX0 k g fd ["self"] sp ∧ Binds K fd ["self"] []
theorem pe_propP {X : Cx} {k : Nat} {C : Addr} {f : Str} {sp : Sp} {e : Expr} {pos : Pos} {ta : TE} (c : CalP X.prog X.w X.K X.mg X.base k C f sp) (hr : Room (k + 1) X.A) (he : PE X e ta) (hab : attributeBase e f X.env (eval e X.env) = eval e X.env := by rfl) :
    PE X (.Attribute e f pos) (tProp C sp [] E0 ta) := by
  obtain ⟨p, g, fd, hp, cl, F, hb⟩ := c.ex
  exact pe_prop he cl hp F hr hb .nil (fun _ _ _ _ _ _ _ z => z.elim) hab
end Vk

namespace Ug
open PySem PySem.Spec PyProof.Rows L2 Ub
/-! ### defs that are called with nothing of repr around them: FnOk with the guards known -/
structure FnG (P : Program) (w : World) (K : PySem.W.Frag) (mg : Str → Option Value) (base : Heap) (CX : CXT) (k : Nat) (f : Addr) (fd : FuncData) (ps : List Str) (sp : Sp) : Prop where
  len : ∀ vs H Q E, sp vs H Q E → vs.length = ps.length
  run : ∀ (A : Around) (outer : List Env) (s : Shared) (H : Hp) (args : Args) (us : List Value) (vs : List V) (Q : VK) (E : XK), A.guards = some [] → Room k A → Env0 P w K mg base A outer s H →
    BindsTo s fd args (ps.zip us) → Vals vs us → sp vs H Q E → codeAny (model P w) A (.call (.ref f) args) (CR CX outer P w H s Q E) s
theorem FnG.mono {P : Program} {w : World} {K : PySem.W.Frag} {mg : Str → Option Value} {base : Heap} {CX : CXT} {j k : Nat} {f : Addr} {fd : FuncData} {ps : List Str} {sp : Sp} (F : FnG P w K mg base CX j f fd ps sp) (h : j ≤ k) : FnG P w K mg base CX k f fd ps sp :=
  ⟨F.len, fun A outer s H args us vs Q E g r => F.run A outer s H args us vs Q E g (r.mono h)⟩
theorem deeper_guards {A : Around} {env : Env} (h : A.guards = some []) : (A.deeper env).guards = some [] := h
section
variable {CX : CXT} {P : Program} {w : World} {K : PySem.W.Frag} {mg : Str → Option Value} {base : Heap} {x qual : Str} {params : Arguments} {body : List Stmt} {scope : Scope} {dvs : List V} {kws : List (Str × V)} {f : Addr} {fd : FuncData} {N ps : List Str} {k : Nat} {sp : Sp}
theorem okG (F : FunD K x qual params body scope dvs kws f fd) (S : FnScope N ps scope) (len : ∀ vs H Q E, sp vs H Q E → vs.length = ps.length)
    (hb : ∀ (cdv : Value) (A : Around) (outer : List Env) (s : Shared) (H : Hp) (vs : List V) (Q : VK) (E : XK), A.guards = some [] → Room k (A.deeper (envOfC qual scope s.heap.objs.size f cdv)) → sp vs H Q E →
      ∃ t, PSs (cxOf CX P w K mg base N qual scope f cdv A outer s H E) body t ∧ t { nx := fun _ H' => Q .non H', rt := Q } (start N vs) H) : FnG P w K mg base CX (k + 1) f fd ps sp := by
  obtain ⟨oc, od, dV, kV, doc, pm, an, cdv, ct, osl, rfl, lk, hcd, _, _⟩ := F.ex
  refine ⟨len, fun A outer s H args us vs Q E hG hr e0 hbi rv hsp => ?_⟩
  have keep := fun b o e => (e0.bs b o e).1
  have inK := e0.mod.kin.keeps keep
  refine codeAny_call_function hr.depth (inK _ _ lk) rfl S.co S.gen rfl (PySem.W.codeRec_of inK hcd) (hbi _ _ _ _ ?_)
  refine wpAny_newFunctionEnv_cells S.kind (fun ⟨y, _⟩ hy => ?_) fun env he s1 cl => ?_
  · exact (S.par y (List.of_mem_zip hy).1).imp (fun q => q) fun q => ⟨q, PySem.W.cellsFrom_some _ _ _ (.inl q)⟩
  subst he
  obtain ⟨t, ht, hq⟩ := hb cdv A outer s H vs Q E hG (hr.deeper _) hsp
  have J : Inv (cxOf CX P w K mg base N qual scope f cdv A outer s H E) [] (start N vs) H s1 := inv_start S hr.hd e0 (len _ _ _ _ hsp) rv cl
  refine ⟨(e0.mod.nolimit.keeps keep).keeps cl.toInCall.keep, codeAny_func (wpAny_mono (ht.run [] s1 (start N vs) H _ J hq) (fun fl s2 h2 => ?_) fun _ _ z => z)⟩
  match fl, h2 with
  | .ret _, ⟨v, _, H2, J2, r2, q2⟩ => exact ⟨v, H2, J2.os, J2.bare, J2.base, J2.hok, r2, q2⟩
  | .next, ⟨_, H2, J2, q2⟩ => exact ⟨.non, H2, J2.os, J2.bare, J2.base, J2.hok, rfl, q2⟩
  | .brk, ⟨_, _, _, q2⟩ => exact q2.elim
  | .cont, ⟨_, _, _, q2⟩ => exact q2.elim
end
/-- such a def by its name -/
structure CalG (P : Program) (w : World) (K : PySem.W.Frag) (mg : Str → Option Value) (base : Heap) (k : Nat) (x : Str) (ps : List Str) (sp : Sp) : Prop where
  ex : ∃ f fd, FnG P w K mg base CX0 k f fd ps sp ∧ mg x = some (.ref f) ∧ PySem.W.keepIn K (.ref f) = true ∧ Binds K fd ps []
section
variable {X : Cx} {k : Nat} {x : Str} {ps : List Str} {sp : Sp} {e : Expr} {es : List Expr} {p pos : Pos} {t : TA}
theorem pe_calG (C : CalG X.prog X.w X.K X.mg X.base k x ps sp) (hG : X.A.guards = some []) (hr : Room k X.A) (hg : Gl X x)
    (ha : PA X (e :: es) t) (hdb : (x == ("__debug__" : Str)) = false := by decide) (he : starEach (e :: es) X.env = (false, eval e X.env) :: starEach es X.env := by rfl) (hpl : (backTo pos (starEach es X.env)).any (·.1) = false := by rfl) :
    PE X (.Call (.Name x p) (e :: es) [] pos) (tCall sp [] E0 t) := by
  obtain ⟨f, fd, F, hm, hk, hb⟩ := C.ex
  refine ⟨fun pins s σ H Q I h => wpAny_Call_Name_kw (ld_glob I hg hm ?_ hdb)⟩
  refine PySem.W.callWith_K (h₀ := X.base) I.ok.mod.kin hk (thn (ha.run pos pins s σ H _ I h) fun us s1 ⟨vs, H1, I1, rv, q⟩ => ⟨I1.kIn, ?_⟩) he hpl
  have q : sp (vs ++ []) H1 Q E0 := q
  rw [List.append_nil] at q
  have hl : us.length = ps.length := by rw [← rv.length]; exact F.len _ _ _ _ q
  have hbs : BindsTo s1 fd ⟨us, []⟩ (ps.zip us) := by
    have z := hb s1 us I1.kIn (by rw [List.append_nil]; exact hl)
    rwa [List.append_nil] at z
  refine wpAny_call (codeAny_mono (F.run X.A X.stack s1 H1 ⟨us, []⟩ us vs Q E0 hG hr I1.env0 hbs rv q) fun r s2 hq => ?_)
  match r, hq with
  | .error e, hq => exact pass0 pins σ H1 s1 e s2 I1 hq
  | .ok (.ret u), hq => exact I1.after hq
end
/-! ### the law's own end -/
section
variable {P : Program} {w : World} {K : PySem.W.Frag} {mg mb : Str → Option Value} {k : Nat} {fa a : Addr} {fd : FuncData} {x : Str} {sp : Sp} {s₁ : Shared} {vs : List Value} {ns : List Int}
theorem core_end (KX : K.In s₁.heap) (hns : s₁.heap.Ns mainGlobals mg) (hb : s₁.heap.Ns builtinsNs mb) (hbb : ∀ x : Str, x ≠ "__name__" → mb x = bootBuiltins x) (hlim : s₁.heap.NoLimit) (hg : s₁.gens = #[])
    (ha : s₁.heap.get? a = some { cls := .type "list", data := .seq vs.toArray }) (hr : Room k callerA) (F : ∀ base : Heap, K.In base → base.Ns mainGlobals mg → FnG P w K mg base CX0 k fa fd [x] sp) (hbind : ∀ (s : Shared) (u : Value), BindsTo s fd ⟨[u], []⟩ [(x, u)])
    (H : Hp) (hO : Only H) (hs : sp [.ref a] H (fun v _ => v = .bl true) fun _ _ _ => False) (hok : HOk P w H s₁.heap) (hA : ∀ b, H b ≠ none → b = a) (hK : H a ≠ none → K.lookup a = none) :
    codeAny (model P w) callerA (.call (.ref fa) ⟨[.ref a], []⟩) (fun r s' => r = .ok (.ret (.bool true)) ∧ OldK s₁.heap s'.heap ∧ s'.os = s₁.os ∧ AllBare s'.gens) s₁ := by
  have far : ∀ {b : Addr}, b ≠ a → H b = none := fun {b} n => Classical.byContradiction fun z => n (hA b z)
  have dictN : ∀ {b : Addr} {m : Str → Option Value}, s₁.heap.Ns b m → (hidT s₁.heap H).Ns b m := by
    intro b m ⟨o, es, ep, e, d, r⟩
    refine ⟨o, es, ep, hidT_get e (far fun z => ?_), d, r⟩
    rw [z, ha] at e
    rw [← Option.some.inj e] at d
    exact nomatch d
  have inB : K.In (hidT s₁.heap H) := fun b o e => hidT_get (KX b o e) (Classical.byContradiction fun z => by
    have eb := hA b z
    rw [eb] at e z
    rw [hK z] at e
    exact nomatch e)
  obtain ⟨mc, l1, l2⟩ := hlim
  have e0 : Env0 P w K mg (hidT s₁.heap H) callerA [] s₁ H := {
    frames := rfl
    mod := ⟨inB, dictN hns, ⟨mb, dictN hb, hbb⟩, ⟨mc, dictN l1, l2⟩⟩
    bs := fun _ _ e => of_hidT e
    bsz := Nat.le_of_eq (hidT_size _ _)
    funs := trivial
    frf := fun b z => absurd (show b ∈ ([] : List Addr) from z) (by simp)
    hok := hok
    bare := .of_eq hg }
  refine codeAny_mono ((F _ inB (dictN hns)).run callerA [] s₁ H ⟨[.ref a], []⟩ [.ref a] [.ref a] _ _ rfl hr e0 (hbind s₁ (.ref a)) (.cons rfl .nil) hs) fun r s2 h => ?_
  match r, h with
  | .error e, h => exact h.elim
  | .ok (.ret u), ⟨v, H2, os2, bare2, un2, hok2, r2, q2⟩ =>
    have ev : v = .bl true := q2
    subst ev
    have eu : u = Value.bool true := r2
    subst eu
    refine ⟨rfl, OldK.of_keep fun b o e => ?_, os2, bare2⟩
    rcases hO b with z | ⟨ob, xs, z⟩
    · exact un2.keep b o e z (fun y => absurd (show b ∈ ([] : List Addr) from y) (by simp)) (by simp)
    · obtain ⟨e1, _⟩ := hok b _ z
      obtain ⟨e2, _⟩ := hok2 b _ (un2.frzs b ob _ z)
      rw [e1] at e
      rw [← Option.some.inj e]
      exact e2
theorem law_callG (KX : K.In s₁.heap) (hns : s₁.heap.Ns mainGlobals mg) (hb : s₁.heap.Ns builtinsNs mb) (hbb : ∀ x : Str, x ≠ "__name__" → mb x = bootBuiltins x) (hlim : s₁.heap.NoLimit) (hg : s₁.gens = #[])
    (ha : s₁.heap.get? a = some { cls := .type "list", data := .seq vs.toArray }) (hi : IntsAre vs ns) (hl : ns.length ≤ sizeLine) (hr : Room k callerA) (F : ∀ base : Heap, K.In base → base.Ns mainGlobals mg → FnG P w K mg base CX0 k fa fd [x] sp)
    (hbind : ∀ (s : Shared) (u : Value), BindsTo s fd ⟨[u], []⟩ [(x, u)]) (hsp : ∀ H : Hp, Only H → SqL K H a (ns.map V.int) → sp [.ref a] H (fun v _ => v = .bl true) fun _ _ _ => False) :
    codeAny (model P w) callerA (.call (.ref fa) ⟨[.ref a], []⟩) (fun r s' => r = .ok (.ret (.bool true)) ∧ OldK s₁.heap s'.heap ∧ s'.os = s₁.os ∧ AllBare s'.gens) s₁ := by
  have rv := vals_ints hi
  have lv := hi.length
  by_cases hk : K.lookup a = none
  · let o0 : Obj := { cls := .type "list", data := .seq vs.toArray }
    let Hs : Hp := upd (fun _ => none) a (.frz o0 (.lst (ns.map V.int)))
    have at_ : Hs a = some (.frz o0 (.lst (ns.map V.int))) := upd_same
    have off : ∀ {b : Addr}, b ≠ a → Hs b = none := fun {b} n => upd_ne n
    have hO : Only Hs := fun b => by
      by_cases e : b = a
      · exact .inr ⟨o0, _, by rw [e]; exact at_⟩
      · exact .inl (off e)
    refine core_end KX hns hb hbb hlim hg ha hr F hbind Hs hO (hsp Hs hO (.inl (.inr ⟨o0, at_⟩))) (fun b u z => ?_) (fun b z => Classical.byContradiction fun n => z (off n)) fun _ => hk
    by_cases e : b = a
    · rw [e, at_] at z
      cases z
      rw [e]
      exact ⟨ha, by rw [List.length_map]; exact hl, vs, _, rv, ha⟩
    · rw [off e] at z
      exact nomatch z
  · obtain ⟨o, ho⟩ := Option.ne_none_iff_exists'.mp hk
    have e := KX a o ho
    rw [ha] at e
    cases e
    exact core_end KX hns hb hbb hlim hg ha hr F hbind (fun _ => none) (fun _ => .inl rfl) (hsp _ (fun _ => .inl rfl) (.inr ⟨_, vs.toArray, _, ho, rfl, rfl, rfl, by rw [List.size_toArray, lv]; exact hl, by simpa using rv⟩))
      (fun b u z => nomatch (show (none : Option HO) = some u from z)) (fun b z => absurd rfl z) fun z => absurd rfl z
end
theorem walk_ofG {l : PySem.W.OpenLaw} {n k : Nat} {q : Program} {loose : List Str} {XP : (Str → Option Value) → Heap → Prop} {YP : World → Heap → Prop} {d : DefRec} {x : Str}
    (hn : l.most = some n) (hn2 : n ≤ sizeLine) (hdf : d.params.defaults = []) (hr : Room k callerA)
    (F : ∀ (w : World) (mg : Str → Option Value) (fa : Addr) (h : Heap), YP w h → h.Ns mainGlobals mg → mg d.name = some (.ref fa) →
      ∃ (K : PySem.W.Frag) (fd : FuncData) (sp : Sp), K.In h ∧ (∀ (s : Shared) (u : Value), BindsTo s fd ⟨[u], []⟩ [(x, u)]) ∧
        (∀ (H : Hp) (a : Addr) (ns : List Int), ns.length ≤ n → Only H → SqL K H a (ns.map V.int) → sp [.ref a] H (fun v _ => v = .bl true) fun _ _ _ => False) ∧
        ∀ base : Heap, K.In base → base.Ns mainGlobals mg → FnG l.prog w K mg base CX0 k fa fd [x] sp) :
    PySem.W.WalkO q loose XP YP l.row.toRowW d [] (fun f vs => PySem.call f vs) := by
  refine Att.attach_call hn hdf fun w s₀ s₁ mg mb fa o pm cd doc a vs ns G Y ho hd hcd hmg hobj hints hlen hg => ?_
  obtain ⟨K, fd, sp, KX, hb, hsp, hF⟩ := F w mg fa _ Y G.T.g hmg
  exact law_callG KX G.T.g G.T.b G.T.builtins G.T.nolimit hg hobj hints (Nat.le_trans hlen hn2) hr hF hb fun H hO hS => hsp H a ns hlen hO hS
end Ug

namespace Ur
open PySem PySem.Spec PyProof.Rows L2 Ub
/-! ### values that are data, out of the places N -/
mutual
inductive DtV (N : List Addr) (H : Hp) : V → PyData → Prop
  | non : DtV N H .non .none
  | bl (b : Bool) : DtV N H (.bl b) (.bool b)
  | int (i : Int) : DtV N H (.int i) (.int i)
  | str (z : Str) : DtV N H (.str z) (.str z)
  | lst {p : Addr} {xs : List V} {ds : List PyData} : H p = some (.lst xs) → p ∉ N → DtVs N H xs ds → DtV N H (.ref p) (.list ds)
  | tup {p : Addr} {xs : List V} {ds : List PyData} : H p = some (.tup xs) → p ∉ N → DtVs N H xs ds → DtV N H (.ref p) (.tuple ds)
inductive DtVs (N : List Addr) (H : Hp) : List V → List PyData → Prop
  | nil : DtVs N H [] []
  | cons {x : V} {d : PyData} {xs : List V} {ds : List PyData} : DtV N H x d → DtVs N H xs ds → DtVs N H (x :: xs) (d :: ds)
end
mutual
theorem DtV.keep {N : List Addr} {H H' : Hp} (k : ∀ b o, H b = some o → b ∉ N → H' b = some o) : ∀ {v : V} {d : PyData}, DtV N H v d → DtV N H' v d
  | _, _, .non => .non
  | _, _, .bl b => .bl b
  | _, _, .int i => .int i
  | _, _, .str z => .str z
  | _, _, .lst h n r => .lst (k _ _ h n) n (DtVs.keep k r)
  | _, _, .tup h n r => .tup (k _ _ h n) n (DtVs.keep k r)
theorem DtVs.keep {N : List Addr} {H H' : Hp} (k : ∀ b o, H b = some o → b ∉ N → H' b = some o) : ∀ {xs : List V} {ds : List PyData}, DtVs N H xs ds → DtVs N H' xs ds
  | _, _, .nil => .nil
  | _, _, .cons h r => .cons (DtV.keep k h) (DtVs.keep k r)
end
theorem DtV.same {N : List Addr} {H H' : Hp} {v : V} {d : PyData} (h : DtV N H v d) (s : Same H H') : DtV N H' v d := h.keep fun b o e _ => s b o e
mutual
theorem DtV.free {N : List Addr} {H : Hp} : ∀ {v : V} {d : PyData}, DtV N H v d → DtV [] H v d
  | _, _, .non => .non
  | _, _, .bl b => .bl b
  | _, _, .int i => .int i
  | _, _, .str z => .str z
  | _, _, .lst h _ r => .lst h (by simp) (DtVs.free r)
  | _, _, .tup h _ r => .tup h (by simp) (DtVs.free r)
theorem DtVs.free {N : List Addr} {H : Hp} : ∀ {xs : List V} {ds : List PyData}, DtVs N H xs ds → DtVs [] H xs ds
  | _, _, .nil => .nil
  | _, _, .cons h r => .cons (DtV.free h) (DtVs.free r)
end
theorem DtVs.mem {N : List Addr} {H : Hp} : ∀ {xs : List V} {ds : List PyData}, DtVs N H xs ds → ∀ {x : V}, x ∈ xs → ∃ d ∈ ds, DtV N H x d
  | _, _, .nil, _, h => nomatch h
  | _, _, .cons h r, x, hx => by
    rcases List.mem_cons.mp hx with e | hx
    · exact ⟨_, List.mem_cons_self .., by rw [e]; exact h⟩
    · obtain ⟨d, h1, h2⟩ := DtVs.mem r hx
      exact ⟨d, List.mem_cons_of_mem _ h1, h2⟩
theorem DtVs.len {N : List Addr} {H : Hp} : ∀ {xs : List V} {ds : List PyData}, DtVs N H xs ds → xs.length = ds.length
  | _, _, .nil => rfl
  | _, _, .cons _ r => congrArg Nat.succ (DtVs.len r)
mutual
theorem DtV.reads {N : List Addr} {P : Program} {w : World} {H : Hp} {h : Heap} (hok : HOk P w H h) : ∀ {v : V} {d : PyData} {u : Value}, DtV N H v d → RelV v u → ∃ as, Reads h u d as
  | _, _, u, .non, r => by
    obtain rfl : u = Value.none := r
    exact ⟨_, .none⟩
  | _, _, u, .bl b, r => by
    obtain rfl : u = Value.bool b := r
    exact ⟨_, .bool b⟩
  | _, _, _, .int i, r => by
    obtain ⟨t, rfl⟩ := r
    exact ⟨_, .int i t⟩
  | _, _, _, .str z, r => by
    obtain ⟨t, rfl⟩ := r
    exact ⟨_, .str z t⟩
  | _, _, u, .lst (p := p) (xs := xs) e _ q, r => by
    obtain rfl : u = Value.ref p := r
    obtain ⟨_, its, n, rv, hg⟩ : ObjOk P w H h p (.lst xs) := hok p _ e
    obtain ⟨as, ra⟩ := DtVs.reads hok q rv
    exact ⟨_, .list hg rfl rfl (by simpa using ra)⟩
  | _, _, u, .tup (p := p) (xs := xs) e _ q, r => by
    obtain rfl : u = Value.ref p := r
    obtain ⟨_, its, rv, o, hg, hc, n, hd⟩ : ObjOk P w H h p (.tup xs) := hok p _ e
    obtain ⟨as, ra⟩ := DtVs.reads hok q rv
    exact ⟨_, .tuple hg hc hd (by simpa using ra)⟩
theorem DtVs.reads {N : List Addr} {P : Program} {w : World} {H : Hp} {h : Heap} (hok : HOk P w H h) : ∀ {xs : List V} {ds : List PyData} {us : List Value}, DtVs N H xs ds → Vals xs us → ∃ as, ReadsAll h us ds as
  | _, _, _, .nil, r => by
    cases r
    exact ⟨_, .nil⟩
  | _, _, _, .cons a b, r => by
    cases r with
    | cons r1 r2 =>
      obtain ⟨as, h1⟩ := DtV.reads hok a r1
      obtain ⟨bs, h2⟩ := DtVs.reads hok b r2
      exact ⟨_, .cons h1 h2⟩
end
/-! ### repr -/
def rpOk (d : PyData) : Bool := d.showable && !d.hasDict && decide (d.depth ≤ 40) && (match d with
  | .int _ => true
  | _ => decide (d.shown.length ≤ 100000))
def rRepr : List V → Hp → VK → Prop := fun xs H Q => ∃ v d, xs = [v] ∧ DtV [] H v d ∧ rpOk d = true ∧ Q (.str d.shown) H
theorem call_reprV {X : Cx} (hG : X.A.guards = some []) (hu : X.A.units + 64 < cLine) : CallR X (.builtin "repr") rRepr := by
  intro pins s σ H xs us Q I r h
  obtain ⟨v, d, rfl, hd, ok, q⟩ := h
  obtain ⟨u, rfl, rv⟩ := vals1 r
  unfold rpOk at ok
  simp only [Bool.and_eq_true, decide_eq_true_eq, Bool.not_eq_true'] at ok
  obtain ⟨⟨⟨o1, o2⟩, o3⟩, o4⟩ := ok
  have sz : ∀ {n : Nat}, n ≤ 100000 → n ≤ sizeLine := fun h => Nat.le_trans h (by decide)
  cases hd with
  | non =>
    obtain rfl : u = Value.none := rv
    exact PySem.P.repr_of_none ⟨.str "None", H, I.tok _, ⟨_, rfl⟩, q⟩
  | bl b =>
    obtain rfl : u = Value.bool b := rv
    refine PySem.P.repr_of_bool ⟨.str (if b then "True" else "False"), H, I.tok _, ⟨s.toks, ?_⟩, ?_⟩
    · cases b <;> rfl
    · cases b <;> exact q
  | int i =>
    obtain ⟨t, rfl⟩ := rv
    refine PySem.P.repr_of_int ?_ ⟨.str (toString i), H, I.tok _, ⟨_, rfl⟩, q⟩
    simpa [PyData.showable] using o1
  | str z =>
    obtain ⟨t, rfl⟩ := rv
    exact PySem.P.repr_of_str ⟨.str (reprText z), H, I.tok _, ⟨_, rfl⟩, q⟩ (sz (of_decide_eq_true o4))
  | lst e n z =>
    rename_i p ys ds
    obtain ⟨as, ra⟩ := DtV.reads I.hok (.lst e n z) rv
    obtain rfl : u = Value.ref p := rv
    exact repr_of_reads' ra o1 (PyData.noDict_hsm o2) hG (by omega) (fun _ _ z => z) (fun h' u tk k => ⟨.str (PyData.list ds).shown, H, I.kept (t' := tk) k, ⟨_, rfl⟩, q⟩) (sz (of_decide_eq_true o4))
  | tup e n z =>
    rename_i p ys ds
    obtain ⟨as, ra⟩ := DtV.reads I.hok (.tup e n z) rv
    obtain rfl : u = Value.ref p := rv
    exact repr_of_reads' ra o1 (PyData.noDict_hsm o2) hG (by omega) (fun _ _ z => z) (fun h' u tk k => ⟨.str (PyData.tuple ds).shown, H, I.kept (t' := tk) k, ⟨_, rfl⟩, q⟩) (sz (of_decide_eq_true o4))
/-! ### the odd values of the laws -/
def odds : List PyData := [.none, .bool true, .bool false, .int 0, .int 1, .int (-1), .int (10 ^ (29 : Int).toNat), .str "", .str "..", .str ".A", .str " ", .str "\n", .str "a b",
  .list [], .list [.int 0], .list [.int 1, .int 2], .tuple [.none], .tuple [.bool true], .tuple [.tuple [], .int 0], .tuple [.str "a", .int 1, .list []], .list [.list [], .list [.tuple []]],
  .list [.none], .str "update", .str "{", .str "}"]
theorem odds_rp : ∀ d ∈ odds, rpOk d = true := List.all_eq_true.mp (by decide +kernel)
end Ur

namespace Ub
open PySem PySem.Spec PyProof.Rows L2 Ur
/-! ### the law's own state -/
structure StAt (H : Hp) (st g l : Addr) : Prop where
  ex : ∃ (gs ls : List Int) (c a : Int), H st = some (.lst [.ref g, .ref l, .int c, .int a]) ∧ H g = some (.lst (gs.map V.int)) ∧ H l = some (.lst (ls.map V.int)) ∧ gs.length ≤ 63 ∧ ls.length ≤ 63 ∧ 0 ≤ a ∧ a < 4611686018427387904
  n1 : st ≠ g
  n2 : st ≠ l
  n3 : g ≠ l
def Kp (st g l : Addr) (H H' : Hp) : Prop := ∀ b o, H b = some o → b ≠ st → b ≠ g → b ≠ l → H' b = some o
theorem Kp.refl {st g l : Addr} (H : Hp) : Kp st g l H H := fun _ _ h _ _ _ => h
theorem Kp.trans {st g l : Addr} {H H1 H2 : Hp} (a : Kp st g l H H1) (b : Kp st g l H1 H2) : Kp st g l H H2 := fun c o h h1 h2 h3 => b c o (a c o h h1 h2 h3) h1 h2 h3
theorem Kp.of {st g l : Addr} {H H1 : Hp} (a : Same H H1) : Kp st g l H H1 := fun c o h _ _ _ => a c o h
theorem StAt.same {st g l : Addr} {H H1 : Hp} (s : StAt H st g l) (a : Same H H1) : StAt H1 st g l := by
  obtain ⟨⟨gs, ls, c, x, h1, h2, h3, r⟩, n1, n2, n3⟩ := s
  exact ⟨⟨gs, ls, c, x, a _ _ h1, a _ _ h2, a _ _ h3, r⟩, n1, n2, n3⟩
theorem StAt.back {st g l : Addr} {H H1 : Hp} (s : StAt H1 st g l) (k : Kp st g l H H1) {p : Addr} (h : H1 p = none) : H p = none := by
  obtain ⟨⟨gs, ls, c, x, h1, h2, h3, r⟩, n1, n2, n3⟩ := s
  cases e : H p with
  | none => rfl
  | some o => rw [k p o e (fun z => by rw [z, h1] at h; cases h) (fun z => by rw [z, h2] at h; cases h) (fun z => by rw [z, h3] at h; cases h)] at h; cases h
theorem small63 {n : Nat} (h : n ≤ 63) : n ≤ sizeLine := Nat.le_trans h (by decide)
theorem m100 {x m : Int} (h : 0 < m) (h2 : m ≤ 1000000000000000000000000000000) : CDivW x m := by
  have e : (2 : Nat) ^ 100 = 1267650600228229401496703205376 := by decide
  exact wide_div (b := 100) h (by omega) (by decide) (by decide)
structure DrI (H0 H : Hp) (st g l : Addr) (gs ls : List Int) (c a : Int) : Prop where
  h1 : H st = some (.lst [.ref g, .ref l, .int c, .int a])
  h2 : H g = some (.lst (gs.map V.int))
  h3 : H l = some (.lst (ls.map V.int))
  lg : gs.length ≤ 63
  kp : Kp st g l H0 H
theorem mulR {i j : Int} (h : -18446744073709551616 < j ∧ j < 18446744073709551616) : CMul i j := .inr h
def spDraw (st g l : Addr) (m : Int) (H : Hp) (Q : VK) : Prop := ∀ d H', 0 ≤ d → d < m → StAt H' st g l → Kp st g l H H' → Q (.int d) H'
def sp_draw : Sp := fun vs H Q _ => ∃ st g l m, vs = [.ref st, .int m] ∧ 0 < m ∧ m ≤ 1000000000000000000000000000000 ∧ StAt H st g l ∧ spDraw st g l m H Q
def sp_start (K : PySem.W.Frag) : Sp := fun vs H Q _ => ∃ (a : Addr) (ns : List Int), vs = [.ref a] ∧ SqL K H a (ns.map V.int) ∧ ns.length ≤ 63 ∧ ∀ st g l H', H st = none → H g = none → H l = none → StAt H' st g l → Same H H' → Q (.ref st) H'
def absI (i : Int) : Int := if i < 0 then -i else i
def kept : List Str := ["document", "update", "set", "new", "edit", "merge", "then", "old", "copy"]
/-! ### words -/
def letters : Str := "abcdefghijklmnopqrstuvwxyz"
def keptV : List V := kept.map V.str
def isLet (c : Nat) : Bool := decide (c ∈ letters.cps.toList)
def isWord (z : Str) : Bool := decide (1 ≤ z.length) && (decide (z.length ≤ 8) && (z.cps.toList.all isLet && !inV (.str z) keptV))
theorem split_kept : Txt.split "document update set new edit merge then old copy" " " = kept := by decide +kernel
theorem kept_flat : keptV.all flatV = true := by decide +kernel
/-- what both readings say -/
theorem good_eq (z : Str) (h : inV (.str z) keptV = false) (h0 : ¬ z.length = 0) (h8 : ¬ 8 < z.length) : decide (((z.cps.toList.filter isLet).length : Int) = (z.length : Int)) = isWord z := by
  have e1 : decide (1 ≤ z.length) = true := decide_eq_true (by omega)
  have e2 : decide (z.length ≤ 8) = true := decide_eq_true (by omega)
  unfold isWord
  rw [e1, e2, h]
  have el : z.length = z.cps.toList.length := by simp [Str.length]
  by_cases ha : z.cps.toList.all isLet = true
  · rw [ha]
    have := List.filter_eq_self.mpr (List.all_eq_true.mp ha)
    rw [this]
    simp [el]
  · rw [Bool.not_eq_true] at ha
    rw [ha]
    simp only [Bool.false_and, Bool.and_false]
    refine decide_eq_false fun e => ?_
    have e3 : (z.cps.toList.filter isLet).length = z.cps.toList.length := by
      rw [← el]; omega
    have := List.length_filter_eq_length_iff.mp e3
    rw [List.all_eq_true.mpr this] at ha
    cases ha
theorem isWord_len {z : Str} (h : isWord z = true) : 1 ≤ z.length ∧ z.length ≤ 8 := by
  unfold isWord at h
  simp only [Bool.and_eq_true, decide_eq_true_eq] at h
  exact ⟨h.1, h.2.1⟩
def sp_of : Sp := fun vs H Q _ => ∃ st g l p xs, vs = [.ref st, .ref p] ∧ H p = some (.lst xs) ∧ p ≠ st ∧ p ≠ g ∧ p ≠ l ∧ xs ≠ [] ∧ xs.length ≤ 1000 ∧ StAt H st g l ∧ ∀ v H', v ∈ xs → StAt H' st g l → Kp st g l H H' → Q v H'
/-- a value that is no part of the program -/
def OddAt (N : List Addr) (H : Hp) (x : V) : Prop := ∃ d ∈ odds, DtV N H x d
theorem OddAt.same {N : List Addr} {H H' : Hp} {x : V} (h : OddAt N H x) (s : Same H H') : OddAt N H' x := by
  obtain ⟨d, h1, h2⟩ := h
  exact ⟨d, h1, h2.same s⟩
def NotStr (K : PySem.W.Frag) (H : Hp) (x : V) : Prop := ∃ T : String, TyX K H x (.type T) ∧ kitB T "str" = some false
theorem odds_str : ∀ d ∈ odds, (match d with
  | .str z => decide (z.length ≤ 10)
  | _ => true) = true := List.all_eq_true.mp (by decide +kernel)
theorem OddAt.kind {K : PySem.W.Frag} {N : List Addr} {H : Hp} {x : V} (h : OddAt N H x) : (∃ z : Str, x = .str z ∧ z.length ≤ 10) ∨ NotStr K H x := by
  obtain ⟨d, hd, h⟩ := h
  cases h with
  | str z => exact .inl ⟨z, rfl, of_decide_eq_true (odds_str _ hd)⟩
  | non => exact .inr ⟨_, .base .non, by decide +kernel⟩
  | bl b => exact .inr ⟨_, .base (.bl b), by decide +kernel⟩
  | int i => exact .inr ⟨_, .base (.int i), by decide +kernel⟩
  | lst h1 => exact .inr ⟨_, .base (.lst h1), by decide +kernel⟩
  | tup h1 => exact .inr ⟨_, .base (.tup h1), by decide +kernel⟩
def sp_odd : Sp := fun vs H Q _ => ∃ st g l, vs = [.ref st] ∧ StAt H st g l ∧ ∀ v H', OddAt [st, g, l] H' v → StAt H' st g l → Kp st g l H H' → Q v H'
def sp_is_word (K : PySem.W.Frag) : Sp := fun vs H Q _ => ∃ x, vs = [x] ∧ ((∃ z : Str, x = .str z ∧ z.length ≤ 10000 ∧ ∀ H', Same H H' → Q (.bl (isWord z)) H') ∨ (NotStr K H x ∧ ∀ H', Same H H' → Q (.bl false) H'))
def sp_good : Sp := fun vs H Q _ => ∃ z : Str, vs = [.str z] ∧ z.length ≤ 10000 ∧ ∀ H', Same H H' → Q (.bl (isWord z)) H'
theorem sz4 {n : Nat} (h : n ≤ 10000) : n ≤ sizeLine := Nat.le_trans h (by decide)
theorem szI {n : Nat} (h : n ≤ 10000) : (n : Int) < 9223372036854775808 := by omega
theorem sub_len {α : Type} [BEq α] [LawfulBEq α] : ∀ (l m : List α), l.Nodup → (∀ x ∈ l, x ∈ m) → l.length ≤ m.length
  | [], _, _, _ => Nat.zero_le _
  | x :: r, m, hn, hs => by
    have hx : x ∈ m := hs x List.mem_cons_self
    have hr : r.Nodup := (List.nodup_cons.mp hn).2
    have hxr : x ∉ r := (List.nodup_cons.mp hn).1
    have ih := sub_len r (m.erase x) hr fun y hy => (List.mem_erase_of_ne (show y ≠ x from fun e => hxr (e ▸ hy))).mpr (hs y (List.mem_cons_of_mem _ hy))
    rw [List.length_erase_of_mem hx] at ih
    have : 0 < m.length := List.length_pos_of_mem hx
    rw [List.length_cons]
    omega
theorem app_cps (x y : Str) : (x ++ y).cps.toList = x.cps.toList ++ y.cps.toList := by
  show (Str.append x y).cps.toList = _
  simp [Str.append]
theorem len_app (x y : Str) : (x ++ y).length = x.length + y.length := by
  have := congrArg List.length (app_cps x y)
  simpa [Str.length] using this
theorem join_cps : ∀ ws : List Str, (Str.join "" ws).cps.toList = ws.flatMap fun w => w.cps.toList
  | [] => rfl
  | [x] => by simp [Str.join]
  | x :: y :: r => by
    have ih := join_cps (y :: r)
    show (x ++ "" ++ Str.join "" (y :: r)).cps.toList = _
    rw [app_cps, app_cps, ih]
    have e : (("" : Str)).cps.toList = [] := by decide +kernel
    rw [e]
    simp
theorem len_toList (z : Str) : z.cps.toList.length = z.length := by simp [Str.length]
/-- a text of letters -/
def Low (z : Str) : Prop := ∀ c ∈ z.cps.toList, isLet c = true
theorem cut_low {z : Str} {lo hi : Option Int} (h : Low z) : Low (cutS z lo hi) := fun c hc => by
  unfold cutS at hc
  exact h c (List.mem_of_mem_drop (List.mem_of_mem_take (by simpa using hc)))
theorem cut_7 (z : Str) : (cutS z none (some 7)).length ≤ 7 := by
  have e : HT.sIx z.length z.length (some 7) ≤ 7 := by
    rw [show (some (7 : Int)) = some (((7 : Nat) : Int)) from rfl, HT.sIx_nat]
    omega
  unfold cutS
  show ((z.cps.toList.drop _).take _).toArray.size ≤ 7
  rw [List.size_toArray, List.length_take]
  omega
def way (z : Str) (c : Nat) : Str := cutS z none (some 7) ++ ⟨#[c]⟩
theorem way_low {z : Str} {c : Nat} (h : Low z) (hc : isLet c = true) : Low (way z c) := fun d hd => by
  unfold way at hd
  rw [app_cps] at hd
  rcases List.mem_append.mp hd with hd | hd
  · exact cut_low h d hd
  · have : d = c := by simpa using hd
    rw [this]; exact hc
theorem way_len (z : Str) (c : Nat) : 1 ≤ (way z c).length ∧ (way z c).length ≤ 8 := by
  have h7 := cut_7 z
  have e : ((⟨#[c]⟩ : Str)).length = 1 := rfl
  unfold way
  rw [len_app, e]
  omega
theorem way_inj {z : Str} {c d : Nat} (h : way z c = way z d) : c = d := by
  have h1 := congrArg (fun s : Str => s.cps.toList) h
  unfold way at h1
  simp only [app_cps] at h1
  have h2 := List.append_cancel_left h1
  simpa using h2
theorem lets_nd : letters.cps.toList.Nodup := by decide +kernel
theorem lets_len : letters.cps.toList.length = 26 := by decide +kernel
def ways (z : Str) : List Str := z :: letters.cps.toList.map (way z)
theorem ways_ex (z : Str) (bad : List Str) (hb : bad.length ≤ 25) : ∃ c ∈ letters.cps.toList, way z c ∉ bad := by
  refine Classical.byContradiction fun h => ?_
  have hs : ∀ x ∈ letters.cps.toList.map (way z), x ∈ bad := fun x hx => by
    obtain ⟨c, hc, rfl⟩ := List.mem_map.mp hx
    exact Classical.byContradiction fun hn => h ⟨c, hc, hn⟩
  have hn : (letters.cps.toList.map (way z)).Nodup := by
    unfold List.Nodup
    rw [List.pairwise_map]
    exact lets_nd.imp fun hne e => hne (way_inj e)
  have := sub_len _ _ hn hs
  rw [List.length_map, lets_len] at this
  omega
theorem inV_str (z : Str) : ∀ ws : List Str, inV (.str z) (ws.map V.str) = decide (z ∈ ws)
  | [] => rfl
  | w :: r => by
    have ih := inV_str z r
    unfold inV at ih ⊢
    rw [List.map_cons, List.any_cons, ih]
    show ((w == z) || decide (z ∈ r)) = decide (z ∈ w :: r)
    by_cases e : w = z
    · subst e; simp
    · have e2 : (w == z) = false := beq_eq_false_iff_ne.mpr e
      rw [e2]
      have : ¬ z = w := fun q => e q.symm
      simp [this]
theorem isWord_iff {z : Str} : isWord z = true ↔ 1 ≤ z.length ∧ z.length ≤ 8 ∧ Low z ∧ z ∉ kept := by
  unfold isWord keptV
  rw [inV_str]
  simp only [Bool.and_eq_true, decide_eq_true_eq, Bool.not_eq_true', decide_eq_false_iff_not, List.all_eq_true]
  exact Iff.rfl
def sp_word : Sp := fun vs H Q _ => ∃ (st g l t : Addr) (taken : List Str), vs = [.ref st, .ref t] ∧ H t = some (.lst (taken.map V.str)) ∧ t ≠ st ∧ t ≠ g ∧ t ≠ l ∧ taken.length ≤ 16 ∧ StAt H st g l ∧ ∀ (z : Str) H', isWord z = true → z ∉ taken → StAt H' st g l → Kp st g l H H' → Q (.str z) H'
theorem StAt.ne {H : Hp} {st g l p : Addr} (S : StAt H st g l) (h : H p = none) : p ≠ st ∧ p ≠ g ∧ p ≠ l := by
  obtain ⟨⟨_, _, _, _, h1, h2, h3, _⟩, _⟩ := S
  exact ⟨(ne_of_none h1 h).symm, (ne_of_none h2 h).symm, (ne_of_none h3 h).symm⟩
theorem flat_strs (ws : List Str) : (ws.map V.str).all flatV = true := by
  rw [List.all_eq_true]
  intro x hx
  obtain ⟨w, _, rfl⟩ := List.mem_map.mp hx
  rfl
theorem StAt.upd {H : Hp} {st g l p : Addr} {o : HO} (S : StAt H st g l) (h1 : p ≠ st) (h2 : p ≠ g) (h3 : p ≠ l) : StAt (upd H p o) st g l := by
  obtain ⟨⟨gs, ls, c, a, e1, e2, e3, r⟩, n1, n2, n3⟩ := S
  exact ⟨⟨gs, ls, c, a, by rw [upd_ne h1.symm]; exact e1, by rw [upd_ne h2.symm]; exact e2, by rw [upd_ne h3.symm]; exact e3, r⟩, n1, n2, n3⟩
theorem mul_len (z : Str) (n : Nat) : (Txt.mul z (n : Int)).length = z.length * n := by
  have h := len_mul z (n : Int)
  have e : (if decide ((n : Int) < 0) = true then (0 : Int) else (n : Int)) = (n : Int) := by
    rw [decide_eq_false (by omega)]
    rfl
  rw [e] at h
  have : (((Txt.mul z (n : Int)).length : Nat) : Int) = ((z.length * n : Nat) : Int) := by rw [h, Int.natCast_mul]
  omega
theorem memS {P : Str → Prop} {ws : List Str} {x : V} {i : Nat} (h : ∀ y ∈ ws, P y) (hx : (ws.map V.str)[i]? = some x) : ∃ y, x = .str y ∧ P y := by
  obtain ⟨y, hy, rfl⟩ := List.mem_map.mp (List.mem_of_getElem? hx)
  exact ⟨y, rfl, h y hy⟩
theorem kept_len : ∀ x ∈ kept, x.length ≤ 8 := by decide +kernel
end Ub

namespace Ub
open PySem PySem.Spec PyProof.Rows L2
theorem sz5 {n : Nat} (h : n ≤ 100000) : n ≤ sizeLine := Nat.le_trans h (by decide)
theorem natSum (l : List Nat) : ((l.sum : Nat) : Int) = (l.map fun (n : Nat) => ((n : Nat) : Int)).sum := by
  induction l with
  | nil => rfl
  | cons a r ih => rw [List.sum_cons, List.map_cons, List.sum_cons, ← ih]; omega
/-! ### trees: the fields one behind the other; none: a plain value -/
inductive Tr where
  | nil
  | cons (w : Str) (t r : Tr)
namespace Tr
def isNil : Tr → Bool
  | nil => true
  | cons _ _ _ => false
def fields : Tr → List (Str × Tr)
  | nil => []
  | cons w t r => (w, t) :: fields r
def ofFields : List (Str × Tr) → Tr
  | [] => nil
  | (w, t) :: r => cons w t (ofFields r)
theorem of_fields : ∀ t : Tr, ofFields t.fields = t
  | nil => rfl
  | cons w t r => by
    show cons w t (ofFields r.fields) = _
    rw [of_fields r]
theorem fields_of : ∀ l : List (Str × Tr), (ofFields l).fields = l
  | [] => rfl
  | (w, t) :: r => by
    show (w, t) :: (ofFields r).fields = _
    rw [fields_of r]
/-- records, plain values, depth of the fields; of the tree -/
def srec : Tr → Nat
  | nil => 0
  | cons _ t r => (if t.isNil then 0 else 1 + srec t) + srec r
def recs (t : Tr) : Nat := if t.isNil then 0 else 1 + srec t
def spla : Tr → Nat
  | nil => 0
  | cons _ t r => (if t.isNil then 1 else spla t) + spla r
def plains (t : Tr) : Nat := if t.isNil then 1 else spla t
def sdep : Tr → Nat
  | nil => 0
  | cons _ t r => max (if t.isNil then 0 else 1 + sdep t) (sdep r)
def depth (t : Tr) : Nat := if t.isNil then 0 else 1 + sdep t
def pieces : Tr → List Str
  | nil => []
  | cons w t r => (w ++ ": " ++ (if t.isNil then (".": Str) else "{" ++ Str.join ", " (pieces t) ++ "}")) :: pieces r
def text (t : Tr) : Str := if t.isNil then "." else "{" ++ Str.join ", " (pieces t) ++ "}"
theorem srec_eq : ∀ t : Tr, srec t = (t.fields.map fun p => recs p.2).sum
  | nil => rfl
  | cons w t r => by
    show (if t.isNil then 0 else 1 + srec t) + srec r = ((recs t) :: (r.fields.map fun p => recs p.2)).sum
    rw [List.sum_cons, srec_eq r]
    rfl
theorem spla_eq : ∀ t : Tr, spla t = (t.fields.map fun p => plains p.2).sum
  | nil => rfl
  | cons w t r => by
    show (if t.isNil then 1 else spla t) + spla r = ((plains t) :: (r.fields.map fun p => plains p.2)).sum
    rw [List.sum_cons, spla_eq r]
    rfl
theorem pieces_eq : ∀ t : Tr, pieces t = t.fields.map fun p => p.1 ++ ": " ++ text p.2
  | nil => rfl
  | cons w t r => by
    show (w ++ ": " ++ text t) :: pieces r = _
    rw [pieces_eq r]
    rfl
theorem sdep_mem : ∀ {t : Tr} {p : Str × Tr}, p ∈ t.fields → depth p.2 ≤ sdep t
  | nil, p, h => by cases h
  | cons w t r, p, h => by
    rcases List.mem_cons.mp h with rfl | h
    · exact Nat.le_max_left _ _
    · exact Nat.le_trans (sdep_mem h) (Nat.le_max_right _ _)
theorem sdep_at : ∀ {t : Tr}, t.isNil = false → ∃ p ∈ t.fields, depth p.2 = sdep t
  | nil, h => by cases h
  | cons w t nil, _ => ⟨(w, t), List.mem_cons_self, by show depth t = max (depth t) 0; omega⟩
  | cons w t (cons w2 t2 r), _ => by
    obtain ⟨p, hp, e⟩ := sdep_at (t := cons w2 t2 r) rfl
    by_cases h : depth t ≤ sdep (cons w2 t2 r)
    · refine ⟨p, List.mem_cons_of_mem _ hp, ?_⟩
      show depth p.2 = max (depth t) (sdep (cons w2 t2 r))
      omega
    · refine ⟨(w, t), List.mem_cons_self, ?_⟩
      show depth t = max (depth t) (sdep (cons w2 t2 r))
      omega
theorem depth_lt {t : Tr} {p : Str × Tr} (h : p ∈ t.fields) : depth p.2 < depth t := by
  have h1 := sdep_mem h
  have h2 : t.isNil = false := by
    cases t with
    | nil => cases h
    | cons _ _ _ => rfl
  unfold depth
  rw [h2]
  show depth p.2 < 1 + sdep t
  omega
/-- how many fields in all; words of at most eight signs -/
def size : Tr → Nat
  | nil => 0
  | cons _ t r => 1 + size t + size r
def short : Tr → Prop
  | nil => True
  | cons w t r => w.length ≤ 8 ∧ short t ∧ short r
theorem fields_len : ∀ t : Tr, t.fields.length ≤ t.size
  | nil => Nat.le_refl _
  | cons w t r => by
    have := fields_len r
    show r.fields.length + 1 ≤ 1 + t.size + r.size
    omega
theorem size_mem : ∀ {t : Tr} {p : Str × Tr}, p ∈ t.fields → p.2.size < t.size
  | nil, p, h => by cases h
  | cons w t r, p, h => by
    show p.2.size < 1 + t.size + r.size
    rcases List.mem_cons.mp h with rfl | h
    · show t.size < _
      omega
    · have := size_mem h
      omega
theorem short_mem : ∀ {t : Tr} {p : Str × Tr}, t.short → p ∈ t.fields → p.1.length ≤ 8 ∧ p.2.short
  | nil, p, _, h => by cases h
  | cons w t r, p, hs, h => by
    rcases List.mem_cons.mp h with rfl | h
    · exact ⟨hs.1, hs.2.1⟩
    · exact short_mem hs.2.2 h
theorem join_len (sep : Str) : ∀ ws : List Str, (Str.join sep ws).length ≤ (ws.map (·.length)).sum + ws.length * sep.length
  | [] => Nat.zero_le _
  | [x] => by
    show x.length ≤ _
    simp only [List.map_cons, List.map_nil, List.sum_cons, List.sum_nil]
    omega
  | x :: y :: r => by
    have ih := join_len sep (y :: r)
    show (x ++ sep ++ Str.join sep (y :: r)).length ≤ _
    rw [len_app, len_app, List.map_cons, List.sum_cons, List.length_cons, Nat.succ_mul]
    omega
theorem join_le : ∀ {t : Tr}, t.short → ((pieces t).map (·.length)).sum + (pieces t).length * 2 ≤ 14 * t.size ∧ (text t).length ≤ 2 + 14 * t.size
  | nil, _ => ⟨Nat.le_refl _, by decide +kernel⟩
  | cons w t r, h => by
    obtain ⟨h1, h2, h3⟩ := h
    obtain ⟨_, a2⟩ := join_le h2
    obtain ⟨b1, _⟩ := join_le h3
    have e2 : ((": " : Str)).length = 2 := by decide +kernel
    have e3 : ((", " : Str)).length = 2 := by decide +kernel
    have e4 : (("{" : Str)).length = 1 := by decide +kernel
    have e5 : (("}" : Str)).length = 1 := by decide +kernel
    have k : ((pieces (cons w t r)).map (·.length)).sum + (pieces (cons w t r)).length * 2 ≤ 14 * (1 + t.size + r.size) := by
      show (((w ++ ": " ++ text t) :: pieces r).map (·.length)).sum + ((w ++ ": " ++ text t) :: pieces r).length * 2 ≤ _
      rw [List.map_cons, List.sum_cons, List.length_cons, len_app, len_app, e2]
      omega
    refine ⟨k, ?_⟩
    show ("{" ++ Str.join ", " (pieces (cons w t r)) ++ "}" : Str).length ≤ _
    have j := join_len ", " (pieces (cons w t r))
    rw [e3] at j
    rw [len_app, len_app, e4, e5]
    show _ ≤ 2 + 14 * (1 + t.size + r.size)
    omega
theorem nil_iff {t : Tr} : t.isNil = t.fields.isEmpty := by cases t <;> rfl
theorem nil_of {t : Tr} (h : t.isNil = true) : t = nil := by
  cases t with
  | nil => rfl
  | cons _ _ _ => cases h
end Tr
theorem recs_int {t : Tr} (h : t.isNil = false) : (1 : Int) + (t.fields.map fun m => ((m.2.recs : Nat) : Int)).sum = ((t.recs : Nat) : Int) := by
  have e : t.recs = 1 + (t.fields.map fun p => p.2.recs).sum := by
    rw [← Tr.srec_eq]
    show (if t.isNil then 0 else 1 + t.srec) = _
    rw [h]
    rfl
  have e2 := natSum (t.fields.map fun p => p.2.recs)
  rw [List.map_map] at e2
  have e3 : (t.fields.map ((fun (n : Nat) => ((n : Nat) : Int)) ∘ fun p => p.2.recs)).sum = (t.fields.map fun m => ((m.2.recs : Nat) : Int)).sum := rfl
  rw [e3] at e2
  rw [e, ← e2]
  omega
theorem plains_int {t : Tr} (h : t.isNil = false) : (t.fields.map fun m => ((m.2.plains : Nat) : Int)).sum = ((t.plains : Nat) : Int) := by
  have e : t.plains = (t.fields.map fun p => p.2.plains).sum := by
    rw [← Tr.spla_eq]
    show (if t.isNil then 1 else t.spla) = _
    rw [h]
    rfl
  have e2 := natSum (t.fields.map fun p => p.2.plains)
  rw [List.map_map] at e2
  rw [e, e2]
  rfl
theorem text_eq {t : Tr} (h : t.isNil = false) : t.text = "{" ++ Str.join ", " t.pieces ++ "}" := by
  show (if t.isNil then (("." : Str)) else "{" ++ Str.join ", " t.pieces ++ "}") = _
  rw [h]
  rfl
theorem depth_int {t : Tr} (h : t.isNil = false) {m : Int} (h1 : m ∈ t.fields.map fun m => ((m.2.depth : Nat) : Int)) (h2 : ∀ y ∈ t.fields.map (fun m => ((m.2.depth : Nat) : Int)), y ≤ m) : (1 : Int) + m = ((t.depth : Nat) : Int) := by
  have e : t.depth = 1 + t.sdep := by
    show (if t.isNil then 0 else 1 + t.sdep) = _
    rw [h]
    rfl
  obtain ⟨p, hp, ep⟩ := Tr.sdep_at h
  obtain ⟨q, hq, rfl⟩ := List.mem_map.mp h1
  have h3 := h2 _ (List.mem_map.mpr ⟨p, hp, rfl⟩)
  have h4 := Tr.sdep_mem hq
  rw [e]
  have h5 : ((p.2.depth : Nat) : Int) ≤ ((q.2.depth : Nat) : Int) := h3
  show (1 : Int) + ((q.2.depth : Nat) : Int) = _
  omega
/-! ### a tree as it stands -/
def FsAt (H : Hp) : Tr → List V → Prop
  | .nil, ps => ps = []
  | .cons w t r, ps => ∃ p q qs, ps = .ref p :: qs ∧ H p = some (.tup [.str w, q]) ∧ (∃ a ps', q = .ref a ∧ H a = some (.tup ps') ∧ FsAt H t ps') ∧ FsAt H r qs
def TrAt (H : Hp) (t : Tr) (v : V) : Prop := ∃ a ps, v = .ref a ∧ H a = some (.tup ps) ∧ FsAt H t ps
theorem FsAt.same {H H' : Hp} (s : Same H H') : ∀ {t : Tr} {ps : List V}, FsAt H t ps → FsAt H' t ps
  | .nil, _, h => h
  | .cons w t r, _, ⟨p, q, qs, e, h1, ⟨a, ps', e2, h2, h3⟩, h4⟩ => ⟨p, q, qs, e, s _ _ h1, ⟨a, ps', e2, s _ _ h2, FsAt.same s h3⟩, FsAt.same s h4⟩
/-- a tree stands while tuples stand -/
theorem FsAt.tups {H H' : Hp} (s : ∀ c xs, H c = some (.tup xs) → H' c = some (.tup xs)) : ∀ {t : Tr} {ps : List V}, FsAt H t ps → FsAt H' t ps
  | .nil, _, h => h
  | .cons w t r, _, ⟨p, q, qs, e, h1, ⟨a, ps', e2, h2, h3⟩, h4⟩ => ⟨p, q, qs, e, s _ _ h1, ⟨a, ps', e2, s _ _ h2, FsAt.tups s h3⟩, FsAt.tups s h4⟩
theorem TrAt.tups {H H' : Hp} (s : ∀ c xs, H c = some (.tup xs) → H' c = some (.tup xs)) {t : Tr} {v : V} (h : TrAt H t v) : TrAt H' t v := by
  obtain ⟨a, ps, e, h1, h2⟩ := h
  exact ⟨a, ps, e, s _ _ h1, h2.tups s⟩
theorem TrAt.same {H H' : Hp} (s : Same H H') {t : Tr} {v : V} (h : TrAt H t v) : TrAt H' t v := by
  obtain ⟨a, ps, e, h1, h2⟩ := h
  exact ⟨a, ps, e, s _ _ h1, h2.same s⟩
theorem FsAt.len {H : Hp} : ∀ {t : Tr} {ps : List V}, FsAt H t ps → ps.length = t.fields.length
  | .nil, _, h => by rw [show _ = [] from h]; rfl
  | .cons w t r, _, ⟨p, q, qs, e, _, _, h4⟩ => by
    rw [e, List.length_cons, FsAt.len h4]
    rfl
theorem FsAt.get {H : Hp} : ∀ {t : Tr} {ps : List V} {i : Nat} {m : Str × Tr}, FsAt H t ps → t.fields[i]? = some m → ∃ p q, ps[i]? = some (.ref p) ∧ H p = some (.tup [.str m.1, q]) ∧ TrAt H m.2 q
  | .nil, _, _, _, _, e => by cases e
  | .cons w t r, _, 0, m, ⟨p, q, qs, e, h1, h2, _⟩, em => by
    have e2 : (w, t) = m := Option.some.inj em
    subst e2 e
    exact ⟨p, q, rfl, h1, h2⟩
  | .cons w t r, _, i + 1, m, ⟨p, q, qs, e, _, _, h4⟩, em => by
    obtain ⟨p', q', g1, g2, g3⟩ := FsAt.get (i := i) (m := m) h4 em
    subst e
    exact ⟨p', q', g1, g2, g3⟩
theorem FsAt.snoc {H : Hp} : ∀ {l : List (Str × Tr)} {ps : List V} {p : Addr} {q : V} {w : Str} {t : Tr}, FsAt H (.ofFields l) ps → H p = some (.tup [.str w, q]) → TrAt H t q → FsAt H (.ofFields (l ++ [(w, t)])) (ps ++ [.ref p])
  | [], ps, p, q, w, t, h, h1, h2 => by
    rw [show ps = [] from h]
    exact ⟨p, q, [], rfl, h1, h2, rfl⟩
  | (w0, t0) :: l, _, p, q, w, t, ⟨p0, q0, qs, e, g1, g2, g3⟩, h1, h2 => by
    rw [e]
    exact ⟨p0, q0, qs ++ [.ref p], rfl, g1, g2, FsAt.snoc g3 h1 h2⟩
theorem FsAt.nil_iff {H : Hp} {t : Tr} {ps : List V} (h : FsAt H t ps) : ps.isEmpty = t.isNil := by
  cases t with
  | nil => rw [show ps = [] from h]; rfl
  | cons w t r =>
    obtain ⟨p, q, qs, e, _⟩ := h
    rw [e]; rfl
/-- a def of a tree of a depth below d: its value -/
def sp_tree (d : Nat) (val : Tr → V) : Sp := fun vs H Q _ => ∃ t v, vs = [v] ∧ TrAt H t v ∧ t.depth < d ∧ t.size ≤ 1000 ∧ t.short ∧ ∀ H', Same H H' → Q (val t) H'
theorem sp_tree.len1 {d : Nat} {val : Tr → V} {vs : List V} {H : Hp} {Q : VK} {E : XK} (h : sp_tree d val vs H Q E) : vs.length = 1 := by
  obtain ⟨t, v, rfl, _⟩ := h
  rfl
theorem no_tree {P : Program} {w : World} {K : PySem.W.Frag} {mg : Str → Option Value} {base : Heap} {f : Addr} {fd : FuncData} {x : Str} {val : Tr → V} : FnOk P w K mg base CX0 0 f fd [x] (sp_tree 0 val) :=
  ⟨fun vs H Q E h => h.len1, fun A outer s H args us vs Q E _ _ _ _ h => by
    obtain ⟨t, v, _, _, hd, _⟩ := h
    exact absurd hd (Nat.not_lt_zero _)⟩
/-! ### == with an empty tuple -/
section
variable {X : Cx}
def rEqNil (K : PySem.W.Frag) (f : Bool → Bool) : R2 := fun x y H Q => ∃ a b xs, x = .ref a ∧ y = .ref b ∧ SqT K H a xs ∧ SqT K H b [] ∧ Q (.bl (f xs.isEmpty)) H
theorem op_eq_nilK (K : PySem.W.Frag) (hu : X.A.units < cLine) (e : X.K = K := by rfl) : OpR X (compareOp .Eq) (rEqNil K fun b => b) := by
  subst e
  intro pins s σ H x y v u Q I rx ry h
  obtain ⟨a, b, xs, rfl, rfl, h1, h2, q⟩ := h
  cases rx
  cases ry
  obtain ⟨its, r, p1, _⟩ := I.tuple h1
  obtain ⟨its2, r2, p2, _⟩ := I.tuple h2
  cases r2
  refine PySem.SeqAt.eq_tupleAt (e := fun _ => true) p1 p2 hu (fun j h1 h2 => absurd h2 (by simp)) ?_
  have e : ((List.range (min its.toArray.size ([] : List Value).toArray.size)).all (fun _ => true) && its.toArray.size == ([] : List Value).toArray.size) = xs.isEmpty := by
    have hl := r.length
    cases xs with
    | nil => cases r; rfl
    | cons x xs => cases r; simp
  rw [e]
  exact ⟨.bl xs.isEmpty, H, I, rfl, q⟩
theorem pg_tupK (K : PySem.W.Frag) {es : List Expr} {k : Nat} {t : TGs} {n : Nat} {pos : Pos} (hc : X.calm = true) (h : PGs X es t) (hn : (assignEach es X.env).length = n := by rfl) (hst : (assignEach es X.env).findIdx? (·.1) = none := by rfl) (e : X.K = K := by rfl) : PG X (.Tuple es k pos) (gTup K n t) := by
  subst e
  exact pg_tup hc h hn hst
end
end Ub

namespace Ub
open PySem PySem.Spec PyProof.Rows L2
open Builtin Builtin.Str PySem.StrLaws
/-! ### the first place of a text -/
theorem occ_kept (s sub : Str) (hi : Nat) : ∀ (l : List Nat) (st : Array Nat × Nat), 1 ≤ st.fst.size → (forIn l st (occBody s sub hi 1)).run.fst = st.fst
  | [], st, _ => rfl
  | a :: l, st, h => by
    rw [List.forIn_cons]
    unfold occBody
    rw [if_neg (fun z => by have := z.1.1.1; omega)]
    exact occ_kept s sub hi l _ h
theorem occ_find (s sub : Str) (hi : Nat) : ∀ (l : List Nat) (free : Nat), (∀ i ∈ l, free ≤ i) →
    (forIn l ((#[] : Array Nat), free) (occBody s sub hi 1)).run.fst.toList = (l.find? fun i => decide (i + sub.length ≤ hi) && subAt s sub i).toList
  | [], free, _ => rfl
  | a :: l, free, hf => by
    rw [List.forIn_cons, List.find?_cons]
    unfold occBody
    have ha : free ≤ a := hf a List.mem_cons_self
    by_cases hc : a + sub.length ≤ hi ∧ subAt s sub a = true
    · rw [if_pos ⟨⟨⟨by simp, ha⟩, hc.1⟩, hc.2⟩]
      have e : (decide (a + sub.length ≤ hi) && subAt s sub a) = true := by simp [hc.1, hc.2]
      rw [e]
      show ((forIn l ((#[] : Array Nat).push a, a + sub.length) (occBody s sub hi 1)).run.fst).toList = [a]
      rw [occ_kept s sub hi l _ (by simp)]
      simp
    · rw [if_neg fun h => hc ⟨h.1.2, h.2⟩]
      have e : (decide (a + sub.length ≤ hi) && subAt s sub a) = false := by
        cases h : (decide (a + sub.length ≤ hi) && subAt s sub a) with
        | false => rfl
        | true =>
          simp only [Bool.and_eq_true, decide_eq_true_eq] at h
          exact absurd h hc
      rw [e]
      exact occ_find s sub hi l free fun i hi' => hf i (List.mem_cons_of_mem _ hi')
theorem occ1 (s sub : Str) (lo hi : Nat) : occurrences s sub lo hi 1 = ((List.range' lo (hi + 1 - lo)).find? fun i => decide (i + sub.length ≤ hi) && subAt s sub i).toList := by
  rw [occ_eq, occ_find s sub hi _ lo fun i hi' => by have := List.mem_range'.mp hi'; omega]
theorem find_range' (p : Nat → Bool) : ∀ (n lo : Nat), (∃ i, lo ≤ i ∧ i < lo + n ∧ p i = true ∧ (∀ j, lo ≤ j → j < i → p j = false) ∧ (List.range' lo n).find? p = some i) ∨ ((∀ j, lo ≤ j → j < lo + n → p j = false) ∧ (List.range' lo n).find? p = none)
  | 0, lo => .inr ⟨fun j h1 h2 => absurd h2 (by omega), rfl⟩
  | n + 1, lo => by
    rw [List.range'_succ, List.find?_cons]
    cases hp : p lo with
    | true => exact .inl ⟨lo, Nat.le_refl _, by omega, hp, fun j h1 h2 => absurd h2 (by omega), rfl⟩
    | false =>
      rcases find_range' p n (lo + 1) with ⟨i, h1, h2, h3, h4, h5⟩ | ⟨h1, h2⟩
      · refine .inl ⟨i, by omega, by omega, h3, fun j g1 g2 => ?_, h5⟩
        by_cases e : j = lo
        · rw [e]; exact hp
        · exact h4 j (by omega) g2
      · refine .inr ⟨fun j g1 g2 => ?_, h2⟩
        by_cases e : j = lo
        · rw [e]; exact hp
        · exact h1 j (by omega) (by omega)
/-- the codes -/
abbrev cs (z : Str) : List Nat := z.cps.toList
theorem str_of (z : Str) : (⟨(cs z).toArray⟩ : Str) = z := by cases z; simp [cs]
theorem str_inj {a b : Str} (h : cs a = cs b) : a = b := by rw [← str_of a, ← str_of b, h]
theorem cs_of (l : List Nat) : cs (⟨l.toArray⟩ : Str) = l := by simp [cs]
theorem cs_len (z : Str) : (cs z).length = z.length := len_toList z
theorem colon_cs : cs (": " : Str) = [58, 32] := by decide +kernel
theorem colon_len : ((": " : Str)).length = 2 := by decide +kernel
theorem sub_colon (z : Str) (i : Nat) : subAt z ": " i = true ↔ ((cs z).drop i).take 2 = [58, 32] := by
  rw [subAt_eq]
  show (((cs z).drop i).take ((": " : Str)).length == cs (": " : Str)) = true ↔ _
  rw [colon_len, colon_cs]
  exact beq_iff_eq
theorem take2_len {l : List Nat} {i a b : Nat} (h : (l.drop i).take 2 = [a, b]) : i + 2 ≤ l.length := by
  have := congrArg List.length h
  rw [List.length_take, List.length_drop] at this
  have e : ([a, b] : List Nat).length = 2 := rfl
  rw [e] at this
  omega
theorem find_colon (z : Str) (a : Nat) (ha : a ≤ z.length) :
    (∃ e, Txt.findIn z ": " (a : Nat) ((a : Nat) + 10) = ((a + e : Nat) : Int) ∧ e ≤ 8 ∧ (((cs z).drop a).drop e).take 2 = [58, 32] ∧ ∀ i, i < e → (((cs z).drop a).drop i).take 2 ≠ [58, 32]) ∨
    (Txt.findIn z ": " (a : Nat) ((a : Nat) + 10) = -1 ∧ ∀ e, e ≤ 8 → (((cs z).drop a).drop e).take 2 ≠ [58, 32]) := by
  have e1 : fromIndex z.length ((a : Nat) : Int) = a := by
    unfold fromIndex
    rw [if_neg (by omega)]
    omega
  have e2 : toIndexW z.length (((a : Nat) : Int) + 10) = min (a + 10) z.length := by
    unfold toIndexW
    rw [if_neg (by omega)]
    omega
  have key : ∀ j, (decide (j + ((": " : Str)).length ≤ min (a + 10) z.length) && subAt z ": " j) = true ↔ j ≤ a + 8 ∧ ((cs z).drop j).take 2 = [58, 32] := fun j => by
    rw [Bool.and_eq_true, decide_eq_true_eq, sub_colon, colon_len]
    constructor
    · rintro ⟨h1, h2⟩
      exact ⟨by omega, h2⟩
    · rintro ⟨h1, h2⟩
      have := take2_len h2
      rw [cs_len] at this
      exact ⟨by omega, h2⟩
  unfold Txt.findIn
  rw [e1, e2, occ1]
  rcases find_range' (fun i => decide (i + ((": " : Str)).length ≤ min (a + 10) z.length) && subAt z ": " i) (min (a + 10) z.length + 1 - a) a with ⟨i, h1, h2, h3, h4, h5⟩ | ⟨h1, h2⟩
  · rw [h5]
    obtain ⟨g1, g2⟩ := (key i).mp h3
    refine .inl ⟨i - a, ?_, by omega, ?_, fun j hj hq => ?_⟩
    · show ((i : Nat) : Int) = _
      omega
    · rw [List.drop_drop, show a + (i - a) = i by omega]
      exact g2
    · rw [List.drop_drop] at hq
      have := (key (a + j)).mpr ⟨by omega, hq⟩
      have h6 := h4 (a + j) (by omega) (by omega)
      rw [this] at h6
      cases h6
  · rw [h2]
    refine .inr ⟨rfl, fun e he hq => ?_⟩
    rw [List.drop_drop] at hq
    have h3 := take2_len hq
    rw [cs_len] at h3
    have := (key (a + e)).mpr ⟨by omega, hq⟩
    have h6 := h1 (a + e) (by omega) (by omega)
    rw [this] at h6
    cases h6
theorem cut_nat {z : Str} {a b : Nat} (ha : a ≤ z.length) (hb : a ≤ b) : cutS z (some (a : Int)) (some (b : Int)) = ⟨(((cs z).drop a).take (b - a)).toArray⟩ := by
  unfold cutS
  rw [HT.sIx_nat, HT.sIx_nat, show min a z.length = a by omega]
  congr 1
  congr 1
  by_cases h : b ≤ z.length
  · rw [show min b z.length = b by omega]
  · rw [show min b z.length = z.length by omega, List.take_of_length_le (by rw [List.length_drop, cs_len]; omega), List.take_of_length_le (by rw [List.length_drop, cs_len]; omega)]
/-! ### the word at the head of signs -/
def scanW (s : List Nat) : Option Str := if isWord ⟨(s.takeWhile isLet).toArray⟩ = true ∧ (s.drop (s.takeWhile isLet).length).take 2 = [58, 32] then some ⟨(s.takeWhile isLet).toArray⟩ else none
theorem let_colon : isLet 58 = false := by decide +kernel
theorem takeWhile_split : ∀ (s : List Nat) (e : Nat), (∀ c ∈ s.take e, isLet c = true) → (∃ r, s.drop e = 58 :: r) → s.takeWhile isLet = s.take e
  | s, 0, _, ⟨r, h⟩ => by
    have h : s = 58 :: r := h
    rw [h, List.takeWhile_cons, let_colon]
    rfl
  | [], e + 1, _, ⟨r, h⟩ => by cases h
  | c :: s, e + 1, hl, ⟨r, h⟩ => by
    have hc : isLet c = true := hl c (by simp)
    rw [List.takeWhile_cons, hc, List.take_succ_cons]
    have := takeWhile_split s e (fun d hd => hl d (by simp [hd])) ⟨r, h⟩
    simp [this]
theorem take2_head {l : List Nat} {a b : Nat} (h : l.take 2 = [a, b]) : ∃ r, l = a :: b :: r := by
  cases l with
  | nil => cases h
  | cons x l =>
    cases l with
    | nil => cases h
    | cons y l =>
      have h1 : [x, y] = [a, b] := h
      injection h1 with h2 h3
      injection h3 with h4
      exact ⟨l, by rw [h2, h4]⟩
theorem isWord_low {z : Str} (h : isWord z = true) : ∀ c ∈ cs z, isLet c = true := (isWord_iff.mp h).2.2.1
/-- the program's reading: found at e -/
theorem scanW_found {s : List Nat} {e : Nat} (h1 : (s.drop e).take 2 = [58, 32]) (h2 : ∀ i, i < e → (s.drop i).take 2 ≠ [58, 32]) (h8 : e ≤ 8) : scanW s = if isWord ⟨(s.take e).toArray⟩ = true then some ⟨(s.take e).toArray⟩ else none := by
  obtain ⟨r, hr⟩ := take2_head h1
  by_cases hw : isWord ⟨(s.take e).toArray⟩ = true
  · have hl := isWord_low hw
    rw [cs_of] at hl
    have et := takeWhile_split s e hl ⟨_, hr⟩
    have le : (s.take e).length = e := by
      rw [List.length_take]
      have := take2_len h1
      omega
    unfold scanW
    rw [et, le, if_pos ⟨hw, h1⟩, if_pos hw]
  · rw [if_neg hw]
    unfold scanW
    refine if_neg fun h => ?_
    obtain ⟨g1, g2⟩ := h
    have hlen := isWord_len g1
    have el : ((⟨(s.takeWhile isLet).toArray⟩ : Str)).length = (s.takeWhile isLet).length := by simp [Str.length]
    rw [el] at hlen
    -- the first place is that one
    have hle : (s.takeWhile isLet).length = e := by
      by_cases hlt : (s.takeWhile isLet).length < e
      · exact absurd g2 (h2 _ hlt)
      · by_cases hgt : e < (s.takeWhile isLet).length
        · have hin : s[e]? = some 58 := by
            have : (s.drop e)[0]? = some 58 := by rw [hr]; rfl
            rw [List.getElem?_drop] at this
            exact this
          have hpre : s.takeWhile isLet <+: s := List.takeWhile_prefix _
          obtain ⟨t, ht⟩ := hpre
          have : (s.takeWhile isLet)[e]? = some 58 := by
            rw [← ht, List.getElem?_append_left hgt] at hin
            exact hin
          have hm := List.mem_of_getElem? this
          have : isLet 58 = true := by
            have := List.all_takeWhile (p := isLet) (l := s)
            exact List.all_eq_true.mp this _ hm
          rw [let_colon] at this
          cases this
        · omega
    have hpre : s.takeWhile isLet = s.take e := by
      have hp : s.takeWhile isLet <+: s := List.takeWhile_prefix _
      have := List.prefix_iff_eq_take.mp hp
      rw [hle] at this
      exact this
    rw [hpre] at g1
    exact hw g1
theorem scanW_none {s : List Nat} (h : ∀ e, e ≤ 8 → (s.drop e).take 2 ≠ [58, 32]) : scanW s = none := by
  unfold scanW
  refine if_neg fun g => ?_
  have hlen := isWord_len g.1
  have el : ((⟨(s.takeWhile isLet).toArray⟩ : Str)).length = (s.takeWhile isLet).length := by simp [Str.length]
  rw [el] at hlen
  exact h _ hlen.2 g.2
theorem scanW_some {s : List Nat} {w : Str} (h : scanW s = some w) : isWord w = true ∧ ∃ r, s = cs w ++ 58 :: 32 :: r := by
  unfold scanW at h
  by_cases hc : isWord ⟨(s.takeWhile isLet).toArray⟩ = true ∧ (s.drop (s.takeWhile isLet).length).take 2 = [58, 32]
  · rw [if_pos hc] at h
    have e := Option.some.inj h
    subst e
    refine ⟨hc.1, ?_⟩
    obtain ⟨r, hr⟩ := take2_head hc.2
    refine ⟨r, ?_⟩
    rw [cs_of, ← hr]
    have hp : s.takeWhile isLet <+: s := List.takeWhile_prefix _
    have := List.prefix_iff_eq_take.mp hp
    conv => lhs; rw [← List.take_append_drop (s.takeWhile isLet).length s]
    rw [← this]
  · rw [if_neg hc] at h
    cases h
/-! ### shapes at the head of signs -/
/-- n fields more, none of the known words; below them: scan -/
def scanF (scan : List Nat → Option (Tr × List Nat)) : Nat → List Str → List Nat → Option (Tr × List Nat)
  | 0, _, _ => none
  | n + 1, known, s => match scanW s with
    | none => none
    | some w => if w ∈ known then none else match scan (s.drop (w.length + 2)) with
      | none => none
      | some (t, r) => match r with
        | 125 :: r' => some (.cons w t .nil, r')
        | 44 :: 32 :: r' => (scanF scan n (known ++ [w]) r').map fun p => (.cons w t p.1, p.2)
        | _ => none
def scanS : Nat → List Nat → Option (Tr × List Nat)
  | floors, s => match s with
    | 46 :: r => some (.nil, r)
    | 123 :: r => (match floors with
      | 0 => none
      | f + 1 => scanF (scanS f) 3 [] r)
    | _ => none
end Ub

namespace Ub
open PySem PySem.Spec PyProof.Rows L2
/-! ### which trees are shapes -/
def FineF (fine : Tr → Prop) : Nat → List Str → Tr → Prop
  | 0, _, _ => False
  | _ + 1, _, .nil => False
  | n + 1, known, .cons w t r => isWord w = true ∧ w ∉ known ∧ fine t ∧ (r = .nil ∨ FineF fine n (known ++ [w]) r)
def Fine : Nat → Tr → Prop
  | 0, t => t = .nil
  | f + 1, t => t = .nil ∨ FineF (Fine f) 3 [] t
/-! ### the codes of a tree's text -/
def fcs : Tr → List Nat
  | .nil => []
  | .cons w t r => cs w ++ 58 :: 32 :: ((if t.isNil then [46] else 123 :: (fcs t ++ [125])) ++ (if r.isNil then [] else 44 :: 32 :: fcs r))
def tcs (t : Tr) : List Nat := if t.isNil then [46] else 123 :: (fcs t ++ [125])
theorem cs_app (a b : Str) : cs (a ++ b) = cs a ++ cs b := app_cps a b
theorem cs_dot : cs (("." : Str)) = [46] := by decide +kernel
theorem cs_open : cs (("{" : Str)) = [123] := by decide +kernel
theorem cs_shut : cs (("}" : Str)) = [125] := by decide +kernel
theorem cs_comma : cs ((", " : Str)) = [44, 32] := by decide +kernel
theorem join_fcs : ∀ t : Tr, cs (Str.join ", " t.pieces) = fcs t ∧ cs t.text = tcs t
  | .nil => ⟨rfl, cs_dot⟩
  | .cons w t r => by
    obtain ⟨_, a2⟩ := join_fcs t
    obtain ⟨b1, _⟩ := join_fcs r
    have k : cs (Str.join ", " (Tr.cons w t r).pieces) = fcs (.cons w t r) := by
      cases r with
      | nil =>
        show cs (w ++ ": " ++ t.text) = _
        rw [cs_app, cs_app, a2, colon_cs]
        show _ = cs w ++ 58 :: 32 :: (tcs t ++ [])
        simp
      | cons w2 t2 r2 =>
        show cs ((w ++ ": " ++ t.text) ++ ", " ++ Str.join ", " (Tr.cons w2 t2 r2).pieces) = _
        rw [cs_app, cs_app, cs_app, cs_app, a2, b1, colon_cs, cs_comma]
        show _ = cs w ++ 58 :: 32 :: (tcs t ++ 44 :: 32 :: fcs (.cons w2 t2 r2))
        simp
    refine ⟨k, ?_⟩
    show cs ("{" ++ Str.join ", " (Tr.cons w t r).pieces ++ "}" : Str) = 123 :: (fcs (.cons w t r) ++ [125])
    rw [cs_app, cs_app, k, cs_open, cs_shut]
    rfl
theorem cs_text (t : Tr) : cs t.text = tcs t := (join_fcs t).2
theorem fcs_cons (w : Str) (t r : Tr) : fcs (.cons w t r) = cs w ++ 58 :: 32 :: (tcs t ++ (if r.isNil then [] else 44 :: 32 :: fcs r)) := rfl
/-! ### what is read is written so -/
theorem scanW_of {w : Str} (h : isWord w = true) (r : List Nat) : scanW (cs w ++ 58 :: 32 :: r) = some w := by
  have hl := isWord_low h
  have e : (cs w ++ 58 :: 32 :: r).takeWhile isLet = cs w := by
    have := takeWhile_split (cs w ++ 58 :: 32 :: r) (cs w).length (by rw [List.take_left]; exact hl) ⟨32 :: r, by rw [List.drop_left]⟩
    rw [this, List.take_left]
  unfold scanW
  rw [e, List.drop_left, str_of, if_pos ⟨h, rfl⟩]
theorem scanF_out {scan : List Nat → Option (Tr × List Nat)} {fine : Tr → Prop} (hs : ∀ s t r, scan s = some (t, r) → fine t ∧ s = tcs t ++ r) :
    ∀ (n : Nat) (known : List Str) (s : List Nat) (u : Tr) (r : List Nat), scanF scan n known s = some (u, r) → FineF fine n known u ∧ s = fcs u ++ 125 :: r
  | 0, _, _, _, _, h => by cases h
  | n + 1, known, s, u, r, h => by
    unfold scanF at h
    cases hw : scanW s with
    | none => rw [hw] at h; cases h
    | some w =>
      rw [hw] at h
      obtain ⟨g1, r0, g2⟩ := scanW_some hw
      dsimp only at h
      by_cases hk : w ∈ known
      · rw [if_pos hk] at h; cases h
      · rw [if_neg hk] at h
        have ed : s.drop (w.length + 2) = r0 := by
          rw [g2, ← cs_len, ← List.drop_drop, List.drop_left]
          rfl
        rw [ed] at h
        cases hsc : scan r0 with
        | none => rw [hsc] at h; cases h
        | some p =>
          obtain ⟨t, r1⟩ := p
          rw [hsc] at h
          dsimp only at h
          obtain ⟨k1, k2⟩ := hs _ _ _ hsc
          split at h
          · rename_i r' 
            have e := Option.some.inj h
            injection e with e1 e2
            subst e1 e2
            refine ⟨⟨g1, hk, k1, .inl rfl⟩, ?_⟩
            rw [fcs_cons, g2, k2]
            simp [Tr.isNil]
          · rename_i r'
            cases hf : scanF scan n (known ++ [w]) r' with
            | none => rw [hf] at h; cases h
            | some q =>
              obtain ⟨u', r''⟩ := q
              rw [hf] at h
              have e := Option.some.inj h
              injection e with e1 e2
              have e1 : Tr.cons w t u' = u := e1
              have e2 : r'' = r := e2
              subst e1 e2
              obtain ⟨i1, i2⟩ := scanF_out hs n _ _ _ _ hf
              refine ⟨⟨g1, hk, k1, .inr i1⟩, ?_⟩
              have hn : u'.isNil = false := by
                cases u' with
                | nil => cases n <;> exact i1.elim
                | cons _ _ _ => rfl
              rw [fcs_cons, g2, k2, hn, i2]
              simp
          · cases h
theorem scanF_in {scan : List Nat → Option (Tr × List Nat)} {fine : Tr → Prop} (hs : ∀ t r, fine t → scan (tcs t ++ r) = some (t, r)) :
    ∀ (n : Nat) (known : List Str) (u : Tr) (r : List Nat), FineF fine n known u → scanF scan n known (fcs u ++ 125 :: r) = some (u, r)
  | 0, _, _, _, h => h.elim
  | n + 1, _, .nil, _, h => h.elim
  | n + 1, known, .cons w t u', r, h => by
    obtain ⟨g1, hk, k1, hr⟩ := h
    have es : fcs (.cons w t u') ++ 125 :: r = cs w ++ 58 :: 32 :: (tcs t ++ ((if u'.isNil then [] else 44 :: 32 :: fcs u') ++ 125 :: r)) := by
      rw [fcs_cons]
      simp
    rw [es]
    unfold scanF
    rw [scanW_of g1]
    dsimp only
    rw [if_neg hk]
    have ed : (cs w ++ 58 :: 32 :: (tcs t ++ ((if u'.isNil then [] else 44 :: 32 :: fcs u') ++ 125 :: r))).drop (w.length + 2) = tcs t ++ ((if u'.isNil then [] else 44 :: 32 :: fcs u') ++ 125 :: r) := by
      rw [← cs_len, ← List.drop_drop, List.drop_left]
      rfl
    rw [ed, hs _ _ k1]
    dsimp only
    cases u' with
    | nil => rfl
    | cons w2 t2 r2 =>
      rcases hr with hr | hr
      · cases hr
      · have ih := scanF_in hs n _ _ r hr
        show (scanF scan n (known ++ [w]) (fcs (.cons w2 t2 r2) ++ 125 :: r)).map _ = _
        rw [ih]
        rfl
theorem scanS_out : ∀ (f : Nat) (s : List Nat) (t : Tr) (r : List Nat), scanS f s = some (t, r) → Fine f t ∧ s = tcs t ++ r := by
  intro f
  induction f with
  | zero =>
    intro s t r h
    unfold scanS at h
    split at h
    · have e := Option.some.inj h
      injection e with e1 e2
      subst e1 e2
      exact ⟨rfl, rfl⟩
    · cases h
    · cases h
  | succ f ih =>
    intro s t r h
    unfold scanS at h
    split at h
    · have e := Option.some.inj h
      injection e with e1 e2
      subst e1 e2
      exact ⟨.inl rfl, rfl⟩
    · rename_i r0
      obtain ⟨g1, g2⟩ := scanF_out ih 3 [] _ _ _ h
      have hn : t.isNil = false := by
        cases t with
        | nil => exact g1.elim
        | cons _ _ _ => rfl
      refine ⟨.inr g1, ?_⟩
      unfold tcs
      rw [hn, g2]
      simp
    · cases h
theorem scanS_in : ∀ (f : Nat) (t : Tr) (r : List Nat), Fine f t → scanS f (tcs t ++ r) = some (t, r) := by
  intro f
  induction f with
  | zero =>
    intro t r h
    have h : t = .nil := h
    subst h
    rfl
  | succ f ih =>
    intro t r h
    rcases h with h | h
    · subst h
      rfl
    · have hn : t.isNil = false := by
        cases t with
        | nil => exact h.elim
        | cons _ _ _ => rfl
      unfold tcs
      rw [hn]
      show scanS (f + 1) ((123 :: (fcs t ++ [125])) ++ r) = _
      have e : (123 :: (fcs t ++ [125])) ++ r = 123 :: (fcs t ++ 125 :: r) := by simp
      rw [e]
      show scanF (scanS f) 3 [] (fcs t ++ 125 :: r) = _
      exact scanF_in ih 3 [] t r h
/-! ### what such a tree has -/
theorem fineF_has {fine : Tr → Prop} {D B : Nat} (hf : ∀ t, fine t → t.depth ≤ D ∧ t.size ≤ B ∧ t.short) : ∀ (n : Nat) (known : List Str) (u : Tr), FineF fine n known u → u.sdep ≤ D ∧ u.size ≤ n * (1 + B) ∧ u.short
  | 0, _, _, h => h.elim
  | n + 1, _, .nil, h => h.elim
  | n + 1, known, .cons w t r, h => by
    obtain ⟨g1, _, k1, hr⟩ := h
    obtain ⟨a1, a2, a3⟩ := hf t k1
    have w8 := (isWord_len g1).2
    have e : (n + 1) * (1 + B) = n * (1 + B) + (1 + B) := Nat.succ_mul _ _
    rcases hr with hr | hr
    · subst hr
      refine ⟨?_, ?_, w8, a3, trivial⟩
      · show max t.depth 0 ≤ D
        omega
      · show 1 + t.size + 0 ≤ _
        omega
    · obtain ⟨b1, b2, b3⟩ := fineF_has hf n _ _ hr
      refine ⟨?_, ?_, w8, a3, b3⟩
      · show max t.depth r.sdep ≤ D
        omega
      · show 1 + t.size + r.size ≤ _
        omega
def bnd : Nat → Nat
  | 0 => 0
  | f + 1 => 3 * (1 + bnd f)
theorem fine_has : ∀ (f : Nat) (t : Tr), Fine f t → t.depth ≤ f ∧ t.size ≤ bnd f ∧ t.short
  | 0, t, h => by
    have h : t = .nil := h
    subst h
    exact ⟨Nat.le_refl _, Nat.le_refl _, trivial⟩
  | f + 1, t, h => by
    rcases h with h | h
    · subst h
      exact ⟨Nat.zero_le _, Nat.zero_le _, trivial⟩
    · obtain ⟨a1, a2, a3⟩ := fineF_has (fine_has f) 3 [] t h
      refine ⟨?_, a2, a3⟩
      show (if t.isNil then 0 else 1 + t.sdep) ≤ f + 1
      split <;> omega
theorem bnd3 {f : Nat} (h : f ≤ 3) : bnd f ≤ 39 := by
  match f, h with
  | 0, _ => decide
  | 1, _ => decide
  | 2, _ => decide
  | 3, _ => decide
end Ub
namespace Ub
open PySem PySem.Spec PyProof.Rows L2
/-! ### promises -/
def sp_scan_word : Sp := fun vs H Q _ => ∃ (z : Str) (a : Nat), vs = [.str z, .int a] ∧ z.length ≤ 100000 ∧ a ≤ z.length ∧ ∀ H', Same H H' → Q (match scanW ((cs z).drop a) with | none => .non | some w => .str w) H'
/-- a pair (tree, place), or (None, place) -/
def ScanOut (H' : Hp) (z : Str) (a : Int) (o : Option (Tr × List Nat)) (p : Addr) : Prop := match o with
  | none => H' p = some (.tup [.non, .int a])
  | some (t, r) => ∃ q, TrAt H' t q ∧ H' p = some (.tup [q, .int ((z.length - r.length : Nat) : Int)])
def sp_scan (d : Nat) : Sp := fun vs H Q _ => ∃ (z : Str) (a f : Nat), vs = [.str z, .int a, .int f] ∧ z.length ≤ 100000 ∧ a ≤ z.length ∧ f < d ∧ f ≤ 3 ∧ ∀ H' p, Same H H' → ScanOut H' z a (scanS f ((cs z).drop a)) p → Q (.ref p) H'
end Ub
namespace Ub
open PySem PySem.Spec PyProof.Rows L2
def prep : List (Str × Tr) → Tr → Tr
  | [], u => u
  | (w, t) :: l, u => .cons w t (prep l u)
theorem prep_snoc : ∀ (l : List (Str × Tr)) (w : Str) (t u : Tr), prep (l ++ [(w, t)]) u = prep l (.cons w t u)
  | [], _, _, _ => rfl
  | (w0, t0) :: l, w, t, u => by
    show Tr.cons w0 t0 (prep (l ++ [(w, t)]) u) = .cons w0 t0 (prep l (.cons w t u))
    rw [prep_snoc l]
theorem prep_nil : ∀ l : List (Str × Tr), prep l .nil = .ofFields l
  | [] => rfl
  | (w, t) :: l => by
    show Tr.cons w t (prep l .nil) = .cons w t (.ofFields l)
    rw [prep_nil l]
theorem no_scan {P : Program} {w : World} {K : PySem.W.Frag} {mg : Str → Option Value} {base : Heap} {f : Addr} {fd : FuncData} {x y z : Str} : FnOk P w K mg base CX0 0 f fd [x, y, z] (sp_scan 0) :=
  ⟨fun vs H Q E h => by
    obtain ⟨_, _, _, rfl, _⟩ := h
    rfl, fun A outer s H args us vs Q E _ _ _ _ h => by
    obtain ⟨_, _, f, _, _, _, hd, _⟩ := h
    exact absurd hd (Nat.not_lt_zero _)⟩
theorem scanS_dot {f : Nat} {s : List Nat} (h : s.take 1 = [46]) : ∃ r, s = 46 :: r ∧ scanS f s = some (.nil, r) := by
  cases s with
  | nil => cases h
  | cons c r =>
    have h1 : [c] = [46] := h
    injection h1 with h2
    subst h2
    refine ⟨r, rfl, ?_⟩
    unfold scanS
    rfl
theorem scanS_none {f : Nat} {s : List Nat} (h1 : s.take 1 ≠ [46]) (h2 : s.take 1 ≠ [123] ∨ f = 0) : scanS f s = none := by
  unfold scanS
  split
  · exact absurd rfl h1
  · rcases h2 with h2 | h2
    · exact absurd rfl h2
    · subst h2
      rfl
  · rfl
theorem scanS_rec {f : Nat} {s : List Nat} (h : s.take 1 = [123]) : ∃ r, s = 123 :: r ∧ scanS (f + 1) s = scanF (scanS f) 3 [] r := by
  cases s with
  | nil => cases h
  | cons c r =>
    have h1 : [c] = [123] := h
    injection h1 with h2
    subst h2
    refine ⟨r, rfl, ?_⟩
    conv => lhs; unfold scanS
    rfl
theorem cut1_eq {z x : Str} {a : Nat} {c : Nat} (ha : a ≤ z.length) (hx : cs x = [c]) : decide (V.str (cutS z (some (a : Int)) (some ((a : Int) + 1))) = V.str x) = decide (((cs z).drop a).take 1 = [c]) := by
  have e : ((a : Nat) : Int) + 1 = ((a + 1 : Nat) : Int) := by omega
  rw [e, cut_nat ha (by omega), show a + 1 - a = 1 by omega]
  by_cases h : ((cs z).drop a).take 1 = [c]
  · rw [h, decide_eq_true rfl]
    refine decide_eq_true ?_
    rw [show x = (⟨([c] : List Nat).toArray⟩ : Str) from str_inj (by rw [hx, cs_of])]
  · rw [decide_eq_false h]
    refine decide_eq_false fun q => h ?_
    have := congrArg cs (V.str.inj q)
    rw [cs_of, hx] at this
    exact this
theorem cut2_eq {z x : Str} {a : Nat} {c d : Nat} (ha : a ≤ z.length) (hx : cs x = [c, d]) : decide (V.str (cutS z (some (a : Int)) (some ((a : Int) + 2))) = V.str x) = decide (((cs z).drop a).take 2 = [c, d]) := by
  have e : ((a : Nat) : Int) + 2 = ((a + 2 : Nat) : Int) := by omega
  rw [e, cut_nat ha (by omega), show a + 2 - a = 2 by omega]
  by_cases h : ((cs z).drop a).take 2 = [c, d]
  · rw [h, decide_eq_true rfl]
    refine decide_eq_true ?_
    rw [show x = (⟨([c, d] : List Nat).toArray⟩ : Str) from str_inj (by rw [hx, cs_of])]
  · rw [decide_eq_false h]
    refine decide_eq_false fun q => h ?_
    have := congrArg cs (V.str.inj q)
    rw [cs_of, hx] at this
    exact this
def nextF (scan : List Nat → Option (Tr × List Nat)) (n : Nat) (known : List Str) (w : Str) (t : Tr) (r : List Nat) : Option (Tr × List Nat) := match r with
  | 125 :: r' => some (.cons w t .nil, r')
  | 44 :: 32 :: r' => (scanF scan n (known ++ [w]) r').map fun p => (.cons w t p.1, p.2)
  | _ => none
/-- one more field -/
theorem scanF_step {scan : List Nat → Option (Tr × List Nat)} {n : Nat} {known : List Str} {s : List Nat} {w : Str} (hw : scanW s = some w) (hk : w ∉ known) {t : Tr} {r : List Nat} (hs : scan (s.drop (w.length + 2)) = some (t, r)) :
    scanF scan (n + 1) known s = nextF scan n known w t r := by
  conv => lhs; unfold scanF
  rw [hw]
  dsimp only
  rw [if_neg hk, hs]
  rfl
theorem scanF_none1 {scan : List Nat → Option (Tr × List Nat)} {n : Nat} {known : List Str} {s : List Nat} (hw : scanW s = none) : scanF scan n known s = none := by
  cases n with
  | zero => rfl
  | succ n => unfold scanF; rw [hw]
theorem scanF_none2 {scan : List Nat → Option (Tr × List Nat)} {n : Nat} {known : List Str} {s : List Nat} {w : Str} (hw : scanW s = some w) (hk : w ∈ known) : scanF scan n known s = none := by
  cases n with
  | zero => rfl
  | succ n => unfold scanF; rw [hw]; dsimp only; rw [if_pos hk]
theorem scanF_none3 {scan : List Nat → Option (Tr × List Nat)} {n : Nat} {known : List Str} {s : List Nat} {w : Str} (hw : scanW s = some w) (hs : scan (s.drop (w.length + 2)) = none) : scanF scan n known s = none := by
  cases n with
  | zero => rfl
  | succ n =>
    unfold scanF
    rw [hw]
    dsimp only
    split
    · rfl
    · rw [hs]
end Ub
namespace Ub
open PySem PySem.Spec PyProof.Rows L2
theorem drop_suf {l pre r : List Nat} (h : l = pre ++ r) : l.drop (l.length - r.length) = r := by
  subst h
  rw [List.length_append, Nat.add_sub_cancel, List.drop_left]
theorem nextF_end {scan : List Nat → Option (Tr × List Nat)} {n : Nat} {known : List Str} {w : Str} {t : Tr} {r : List Nat} (h : r.take 1 = [125]) : ∃ r', r = 125 :: r' ∧ nextF scan n known w t r = some (.cons w t .nil, r') := by
  cases r with
  | nil => cases h
  | cons c r =>
    have h1 : [c] = [125] := h
    injection h1 with h2
    subst h2
    exact ⟨r, rfl, rfl⟩
theorem nextF_bad {scan : List Nat → Option (Tr × List Nat)} {n : Nat} {known : List Str} {w : Str} {t : Tr} {r : List Nat} (h : r.take 1 ≠ [125]) (h2 : r.take 2 ≠ [44, 32]) : nextF scan n known w t r = none := by
  unfold nextF
  split
  · exact absurd rfl h
  · exact absurd rfl h2
  · rfl
theorem nextF_on {scan : List Nat → Option (Tr × List Nat)} {n : Nat} {known : List Str} {w : Str} {t : Tr} {r : List Nat} (h : r.take 2 = [44, 32]) : ∃ r', r = 44 :: 32 :: r' ∧ nextF scan n known w t r = (scanF scan n (known ++ [w]) r').map fun p => (.cons w t p.1, p.2) := by
  obtain ⟨r', rfl⟩ := take2_head h
  exact ⟨r', rfl, rfl⟩
end Ub

namespace Ue
open PySem PySem.Spec PyProof.Rows L2 Ub
/-! ### own error classes with one field -/
structure ExK (K : PySem.W.Frag) (C fI : Addr) (f : Str) : Prop where
  o : OexC K C
  x : XfC K C
  e : ExcC K C
  no : PySem.W.findIn K (.ref C) f = some none
  iC : PySem.W.findIn K (.ref C) "__init__" = some (some (.ref fI))
  tI : PySem.W.typeIn K (.ref fI) = some (.type "function")
def clB (K : PySem.W.Frag) (C : Addr) : Bool := match K.lookup C with
  | some ⟨.type T, _, .cls cd, sl⟩ => (match cd.mro, sl.toList with
    | .ref C' :: bm, [_, _, _, _, some (.builtin n), _] => decide (T = "type") && (decide (C' = C) && (decide (n = "ValueError.__new__") && (!cd.hasDel && (cd.hasDict && PySem.HandSPX.refsVE bm))))
    | _, _ => false)
  | _ => false
theorem clB_ok {K : PySem.W.Frag} {C : Addr} (h : clB K C = true) : ∃ nm q N bs bm sn sub ab col dd k0 k1 k2 k3 k5, K.lookup C = some (excClassObj nm q C N bs bm true sn sub ab col dd k0 k1 k2 k3 k5 "ValueError.__new__") ∧ PySem.HandSPX.refsVE bm = true := by
  unfold clB at h
  split at h
  · rename_i T dd cd sl ho
    split at h
    · rename_i C' bm k0 k1 k2 k3 n k5 hm hs
      obtain ⟨nm, bs, mro, ns, qn, hd, sn, sub, ab, col, del⟩ := cd
      obtain ⟨ls⟩ := sl
      simp only [Bool.and_eq_true, decide_eq_true_eq, Bool.not_eq_true'] at h
      obtain ⟨rfl, rfl, rfl, h1, h2, h3⟩ := h
      dsimp only at hm hs h1 h2
      subst hm hs h1 h2
      exact ⟨nm, qn, ns, bs, bm, sn, sub, ab, col, dd, k0, k1, k2, k3, k5, ho, h3⟩
    · cases h
  · cases h
def exB (K : PySem.W.Frag) (C fI : Addr) (f : Str) : Bool :=
  clB K C && (He.eqO (PySem.W.findIn K (.ref C) "__setattr__") (some (some (.builtin "object.__setattr__"))) && (decide (PySem.W.typeIn K (.ref C) = some (.type "type")) && (PySem.W.keepIn K (.ref C) && (xfB K C &&
  (He.eqO (PySem.W.findIn K (.ref C) "__class__") (some (some (.builtin "object.__class__"))) && (He.eqO (PySem.W.specialIn K (.builtin "object.__class__") "__get__") (some (some (.builtin "getset_descriptor.__get__"))) &&
  (decide (PySem.W.takesIn K (.builtin "object.__class__") = some true) && (decide (PySem.W.mroIn K C (.type "object") = some true) && (He.eqO (PySem.W.findIn K (.ref C) f) (some none) &&
  (He.eqO (PySem.W.findIn K (.ref C) "__init__") (some (some (.ref fI))) && decide (PySem.W.typeIn K (.ref fI) = some (.type "function"))))))))))))
theorem exB_ok {K : PySem.W.Frag} {C fI : Addr} {f : Str} (h : exB K C fI f = true) : ExK K C fI f := by
  obtain ⟨h1, h⟩ := He.ba h
  obtain ⟨h2, h⟩ := He.ba h
  obtain ⟨h3, h⟩ := He.ba h
  obtain ⟨h4, h⟩ := He.ba h
  obtain ⟨h5, h⟩ := He.ba h
  obtain ⟨h6, h⟩ := He.ba h
  obtain ⟨h7, h⟩ := He.ba h
  obtain ⟨h8, h⟩ := He.ba h
  obtain ⟨h9, h⟩ := He.ba h
  obtain ⟨h10, h⟩ := He.ba h
  obtain ⟨h11, h12⟩ := He.ba h
  have x := xfB_ok h5
  exact ⟨⟨clB_ok h1, He.eqO_ok h2, x.exC, of_decide_eq_true h3, h4⟩, x, ⟨x.ga, x.gg, x.exC, x.hdC, He.eqO_ok h6, He.eqO_ok h7, of_decide_eq_true h8, of_decide_eq_true h9⟩, He.eqO_ok h10, He.eqO_ok h11, of_decide_eq_true h12⟩
/-- what such an __init__ does -/
def sp_exi (C : Addr) (f : Str) : Sp := fun vs H Q _ => ∃ a y, vs = [.ref a, y] ∧ H a = some (exo a C none) ∧ ∀ d, H d = none → d ≠ a → Q .non (upd (upd H d (exd d [(f, y)])) a (exo a C (some d)))
/-- such a class by its name -/
structure CalX (P : Program) (w : World) (K : PySem.W.Frag) (mg : Str → Option Value) (base : Heap) (k : Nat) (x : Str) (C : Addr) (f : Str) : Prop where
  ex : ∃ fI fd ps, ExK K C fI f ∧ FnOk P w K mg base CX0 k fI fd ps (sp_exi C f) ∧ Binds K fd ps [] ∧ mg x = some (.ref C)
def MkX (C : Addr) (f : Str) (v : V) (H1 : Hp) (W : XK) : Prop := [v].length ≤ 1000 ∧ ∀ a, H1 a = none → sp_exi C f (.ref a :: ([v] ++ [])) (upd H1 a (exo a C none))
  (fun v H2 => v = .non ∧ ∃ (d : Addr) (fs : List (Str × V)), H2 a = some (exo a C (some d)) ∧ H2 d = some (exd d fs) ∧ H1 d = none ∧ W (.ref C) (some d) (upd (del H2 a) d (.xd fs))) (fun _ _ _ => False)
theorem mkX {C : Addr} {f : Str} {v : V} {H1 : Hp} {W : XK} (h : ∀ d H', Same H1 H' → H1 d = none → H' d = some (.xd [(f, v)]) → W (.ref C) (some d) H') : MkX C f v H1 W := by
  refine ⟨by simp, fun a ha => ⟨a, v, rfl, upd_same, fun d hd hne => ⟨rfl, d, [(f, v)], upd_same, ?_, ?_, h d _ (fun b o q => ?_) ?_ upd_same⟩⟩⟩
  · rw [upd_ne hne, upd_same]
  · rwa [upd_ne hne] at hd
  · rw [upd_ne hne] at hd
    have hb := ne_of_none q ha
    have hbd := ne_of_none q hd
    rw [upd_ne hbd, del_ne hb, upd_ne hb, upd_ne hbd, upd_ne hb]
    exact q
  · rwa [upd_ne hne] at hd
section
variable {X : Cx} {k : Nat} {x : Str} {C : Addr} {f : Str} {e : Expr} {te : TE} {p pos pos' : Pos}
/-- raise x(e) -/
theorem ps_raiseX {W : WX} (c : CalX X.prog X.w X.K X.mg X.base k x C f) (hc : X.calm = true) (tk : Takes X W) (hr : Room (k + 1) X.A) (hg : Gl X x) (he : PE X e te)
    (hdb : (x == ("__debug__" : Str)) = false := by decide) (hs : starEach [e] X.env = (false, eval e X.env) :: starEach [] X.env := by rfl) :
    PS X (.Raise (some (.Call (.Name x p) [e] [] pos)) none pos') (fun _ σ H => te σ H fun v H1 => MkX C f v H1 fun cls d H' => W cls d σ H') := by
  obtain ⟨fI, fd, ps, E, F, hb, hm⟩ := c.ex
  exact ps_raise hc tk (pmk_oex E.o E.iC E.tI F hr hb .nil pass0 hg hm (pa_cons he pa_nil hs) hdb hs rfl)
/-- x(e), as a value -/
def Mk1 (C : Addr) (f : Str) (Q : VK) (v : V) (H1 : Hp) : Prop := ∀ a d H', Same H1 H' → H1 a = none → H1 d = none → H' a = some (exo a C (some d)) → H' d = some (exd d [(f, v)]) → Q (.ref a) H'
def MkL (C : Addr) (f : Str) (Q : VK) : List V → Hp → Prop
  | [v], H1 => Mk1 C f Q v H1
  | _, _ => False
def tMkX (C : Addr) (f : Str) (te : TE) : TE := fun σ H Q => te σ H (Mk1 C f Q)
theorem MkL.one {C : Addr} {f : Str} {Q : VK} {vs : List V} {H1 : Hp} (h : MkL C f Q vs H1) : ∃ v, vs = [v] ∧ Mk1 C f Q v H1 := by
  match vs, h with
  | [v], h => exact ⟨v, rfl, h⟩
theorem pe_mkX (c : CalX X.prog X.w X.K X.mg X.base k x C f) (hr : Room (k + 1) X.A) (hg : Gl X x) (he : PE X e te)
    (hdb : (x == ("__debug__" : Str)) = false := by decide) (hs : starEach [e] X.env = (false, eval e X.env) :: starEach [] X.env := by rfl) :
    PE X (.Call (.Name x p) [e] [] pos) (tMkX C f te) := by
  obtain ⟨fI, fd, ps, E, F, hb, hm⟩ := c.ex
  obtain ⟨nm, q, N, bs, bm, sn, sub, ab, col, dd, k0, k1, k2, k3, k5, lk, hbm⟩ := E.o.cls
  refine ⟨fun pins s σ H Q I h => wpAny_Call_Name_kw (ld_glob I hg hm ?_ hdb)⟩
  refine PySem.W.callWith_K (h₀ := X.base) I.ok.mod.kin E.o.kC (thn ((pa_cons he pa_nil hs).run pos pins s σ H (MkL C f Q) I h) fun us s1 ⟨vs, H1, J, rv, ml⟩ => ⟨J.kIn, ?_⟩) hs rfl
  obtain ⟨v, rfl, m1⟩ := ml.one
  obtain ⟨hp, g, dr, tk, os⟩ := s1
  show wpAny _ _ (call (.ref C) us) _ _ _
  let n := hp.objs.size
  let h2 := (hp.push (PySem.W.kdv_tup us)).push (PySem.HandSPX.excO C n)
  have hn : H1 (n + 1) = none := J.hok.fresh (Nat.le_succ _)
  have kk : ∀ b o, hp.get? b = some o → h2.get? b = some o := fun b o z => Heap.get?_push_of_some _ (Heap.get?_push_of_some _ z)
  have at_ : h2.get? (n + 1) = some (PySem.HandSPX.excO C n) := by
    show ((hp.push (PySem.W.kdv_tup us)).push (PySem.HandSPX.excO C hp.objs.size)).get? (hp.objs.size + 1) = some (PySem.HandSPX.excO C hp.objs.size)
    heap_get
  have J2 : Inv X pins σ (upd H1 (n + 1) (exo (n + 1) C none)) ⟨h2, g, dr, tk, os⟩ := J.laid (t' := tk) kk (Nat.le_succ _) (exo_ok at_)
  have hl1 : us.length = 1 := by rw [← rv.length]; rfl
  have sp : sp_exi C f [.ref (n + 1), v] (upd H1 (n + 1) (exo (n + 1) C none)) (fun z H2 => z = .non ∧ Q (.ref (n + 1)) H2) (fun _ _ _ => False) := by
    refine ⟨n + 1, v, rfl, upd_same, fun d hd hne => ⟨rfl, ?_⟩⟩
    rw [upd_ne hne] at hd
    refine m1 (n + 1) d _ (fun b o z => ?_) hn hd upd_same (by rw [upd_ne hne, upd_same])
    rw [upd_ne (ne_of_none z hn), upd_ne (ne_of_none z hd), upd_ne (ne_of_none z hn)]
    exact z
  have r2 : Vals [V.ref (n + 1), v] (Value.ref (n + 1) :: us) := .cons rfl rv
  have hl : (Value.ref (n + 1) :: us).length = ps.length := by
    rw [← r2.length]
    exact F.len _ _ _ _ sp
  have bi : BindsTo ⟨h2, g, dr, tk, os⟩ fd ⟨Value.ref (n + 1) :: us, []⟩ (ps.zip (Value.ref (n + 1) :: us)) := by
    have z := hb ⟨h2, g, dr, tk, os⟩ (Value.ref (n + 1) :: us) J2.kIn (by rw [List.append_nil]; exact hl)
    rwa [List.append_nil] at z
  refine wpAny_call (PySem.HandSPX.call_own PySem.F.excBase_ValueError (fun Y => PySem.HandSPX.refsVE_contains Y bm hbm) (J.kIn _ _ lk) (PySem.W.looks_findIn J.kIn E.iC) (fun self => PySem.W.bind_fn J.kIn self E.tI) (by rw [hl1]; decide)
    (codeAny_mono (F.run _ X.stack _ _ ⟨Value.ref (n + 1) :: us, []⟩ (Value.ref (n + 1) :: us) _ _ (fun _ _ _ => False) (hr.make C us []) (J2.env0.make C us []) bi r2 sp) fun r s2 hq => ?_))
  match r, hq with
  | .error _, hq => exact hq.elim
  | .ok (.ret u), hq =>
    obtain ⟨z, H2, J3, rz, ez, q2⟩ := J2.after hq
    subst ez
    exact ⟨rz, .ref (n + 1), H2, J3, rfl, q2⟩
/-- x.f, x such a value -/
def tExf (K : PySem.W.Frag) (f : Str) (te : TE) : TE := fun σ H Q => te σ H fun x H1 => ∃ (a C d : Addr) (fs : List (Str × V)) (v : V), x = .ref a ∧ H1 a = some (exo a C (some d)) ∧ H1 d = some (exd d fs) ∧ XfC K C ∧ PySem.W.findIn K (.ref C) f = some none ∧ fs.lookup f = some v ∧ Q v H1
theorem exo_inst {P : Program} {w : World} {H : Hp} {h : Heap} {a C d : Addr} {fs : List (Str × V)} (hok : HOk P w H h) (ea : H a = some (exo a C (some d))) (ed : H d = some (exd d fs)) :
    ∃ (oe od : Obj) (mA : Str → Option Value), PySem.W.InstAt h a oe C (some od) ∧ (∀ n, PySem.W.lookIn n od = some (mA n)) ∧ ∀ n, RelO (fs.lookup n) (mA n) := by
  obtain ⟨t, ho⟩ := exo_at hok ea
  obtain ⟨mA, hns, hr⟩ := exd_at hok ed
  obtain ⟨od, h1, h2⟩ := lookIn_ns hns
  exact ⟨_, od, mA, ⟨ho, rfl, rfl, h1⟩, h2, hr⟩
theorem pe_exf (he : PE X e te) (hb : attributeBase e f X.env (eval e X.env) = eval e X.env := by rfl) : PE X (.Attribute e f pos) (tExf X.K f te) := by
  refine ⟨fun pins s σ H Q I h => attr_of hb (thn (he.run pins s σ H _ I h) fun u s1 hh => ?_)⟩
  obtain ⟨x, H1, J, rx, a, C, d, fs, v, rfl, ea, ed, T, no, l, q⟩ := hh
  obtain rfl : u = Value.ref a := rx
  obtain ⟨oe, od, mA, Z, hl, hr⟩ := exo_inst J.hok ea ed
  obtain ⟨y, hy, ry⟩ := RelO.some_of (v := v) (o := mA f) (by rw [← l]; exact hr f)
  exact HandSPX.exc_get J.kIn Z T.ga T.gg T.exC (PySem.W.findObj_own T.hdC no rfl (by rw [hl, hy])) (handed_of ry) ⟨v, H1, J.tok _, ry, q⟩
/-- isinstance(x, c), x such a value -/
def rIsX (K : PySem.W.Frag) : List V → Hp → VK → Prop := fun xs H Q => ∃ (a C d : Addr) (fs : List (Str × V)) (c : V) (cv : Value) (b : Bool), xs = [.ref a, c] ∧ H a = some (exo a C (some d)) ∧ H d = some (exd d fs) ∧ ExcC K C ∧ (∀ u, RelV c u → u = cv) ∧ PySem.W.kitOne K (.ref C) cv = some b ∧ Q (.bl b) H
theorem clsSome {K : PySem.W.Frag} {C : Addr} (h : PySem.W.hasDictIn K C = true) : (PySem.W.clsIn K C).isSome = true := by
  obtain ⟨cd, hc, _⟩ := PySem.W.any_some h
  rw [hc]
  rfl
theorem call_isX : CallR X (.builtin "isinstance") (rIsX X.K) := by
  intro pins s σ H xs us Q I r h
  obtain ⟨a, C, d, fs, c, cv, b, rfl, ea, ed, T, hc, hk, q⟩ := h
  match us, r with
  | [u1, u2], .cons r1 (.cons r2 .nil) =>
    obtain rfl : u1 = Value.ref a := r1
    obtain rfl := hc _ r2
    obtain ⟨oe, od, mA, Z, _, _⟩ := exo_inst I.hok ea ed
    exact PySem.W.kia_one (PySem.W.kitx_exc (clsSome T.hd) T.hg T.hk T.hs T.ha T.hn T.ht T.hm) I.kIn Z hk (fun z => nomatch z) fun tk => ⟨.bl b, H, I.kept (t' := tk) fun _ _ z => z, rfl, q⟩
/-- isinstance(e, c), e what an except clause holds, with its dict -/
def rIsS (K : PySem.W.Frag) (a : Addr) (cls : Value) (d : Option Addr) : List V → Hp → VK → Prop := fun xs H Q => ∃ (C dd : Addr) (fs : List (Str × V)) (c : V) (cv : Value) (b : Bool), xs = [.ref a, c] ∧ cls = .ref C ∧ d = some dd ∧ H dd = some (.xd fs) ∧ ExcC K C ∧ (∀ u, RelV c u → u = cv) ∧ PySem.W.kitOne K (.ref C) cv = some b ∧ Q (.bl b) H
theorem call_isS {a : Addr} {oe : Obj} {cls : Value} {d : Option Addr} {pn : List (Addr × Obj)} (hz : Zc cls d oe) (hf : ∃ vs, oe.data = .fields vs) : CallR (X.suite a ((a, oe) :: pn)) (.builtin "isinstance") (rIsS X.K a cls d) := by
  intro pins s σ H xs us Q I r h
  obtain ⟨C, dd, fs, c, cv, b, rfl, rfl, rfl, ed, T, hc, hk, q⟩ := h
  match us, r with
  | [u1, u2], .cons r1 (.cons r2 .nil) =>
    obtain rfl : u1 = Value.ref a := r1
    obtain rfl := hc _ r2
    obtain ⟨ha, _⟩ := I.pin (a, oe) (List.mem_append_left _ List.mem_cons_self)
    obtain ⟨vs, hd⟩ := hf
    obtain ⟨mA, hns, _⟩ : ObjOk X.prog X.w H s.heap dd (.xd fs) := I.hok dd _ ed
    obtain ⟨od, ho, _⟩ := lookIn_ns hns
    have Z : PySem.W.InstAt s.heap a oe C (some od) := ⟨ha, hz.1, by unfold PySem.W.notCls; rw [hd] <;> rfl, by rw [hz.2]; exact ho⟩
    exact PySem.W.kia_one (PySem.W.kitx_exc (clsSome T.hd) T.hg T.hk T.hs T.ha T.hn T.ht T.hm) I.kIn Z hk (fun z => nomatch z) fun tk => ⟨.bl b, H, I.kept (t' := tk) fun _ _ z => z, rfl, q⟩
end
theorem takes0 {X : Cx} : Takes X (fun _ _ _ _ => False) := fun _ _ ⟨_, _, _, _, _, _, _, _, _, _, _, _, _, _, _, _, z⟩ => z.elim
/-- who is whose -/
structure KitT (K : PySem.W.Frag) (b : Str) (xs : List Str) : Prop where
  own : ∀ x ∈ xs, ∀ y ∈ xs, PySem.W.kitOne K (.ref (He.ga K x)) (.ref (He.ga K y)) = some (decide (x = y))
  base : ∀ x ∈ xs, PySem.W.kitOne K (.ref (He.ga K x)) (.ref (He.ga K b)) = some true
  ve : ∀ x ∈ xs, PySem.W.kitOne K (.ref (He.ga K x)) (.type "ValueError") = some true
def kitTB (K : PySem.W.Frag) (b : Str) (xs : List Str) : Bool := (xs.all fun x => xs.all fun y => decide (PySem.W.kitOne K (.ref (He.ga K x)) (.ref (He.ga K y)) = some (decide (x = y)))) &&
  ((xs.all fun x => decide (PySem.W.kitOne K (.ref (He.ga K x)) (.ref (He.ga K b)) = some true)) && xs.all fun x => decide (PySem.W.kitOne K (.ref (He.ga K x)) (.type "ValueError") = some true))
theorem kitTB_ok {K : PySem.W.Frag} {b : Str} {xs : List Str} (h : kitTB K b xs = true) : KitT K b xs := by
  obtain ⟨h1, h⟩ := He.ba h
  obtain ⟨h2, h3⟩ := He.ba h
  exact ⟨fun x hx y hy => of_decide_eq_true (List.all_eq_true.mp (List.all_eq_true.mp h1 x hx) y hy), fun x hx => of_decide_eq_true (List.all_eq_true.mp h2 x hx), fun x hx => of_decide_eq_true (List.all_eq_true.mp h3 x hx)⟩
end Ue

namespace Up
open PySem PySem.Spec PyProof.Rows L2 Ub Ur Ug Ue
/-! ### which texts are shapes -/
def good (t : Tr) : Prop := Fine 3 t ∧ t.recs ≤ 5 ∧ t.plains ≤ 5
def shapeOf (z : Str) : Option Tr := match scanS 3 (cs z) with
  | some (t, []) => if t.recs ≤ 5 ∧ t.plains ≤ 5 then some t else none
  | _ => none
theorem cs_inj {a b : Str} (h : cs a = cs b) : a = b := by
  obtain ⟨⟨x⟩⟩ := a
  obtain ⟨⟨y⟩⟩ := b
  have : x = y := h
  rw [this]
theorem shapeOf_out {z : Str} {t : Tr} (h : shapeOf z = some t) : good t ∧ z = t.text := by
  unfold shapeOf at h
  split at h
  · rename_i u hs
    split at h
    · rename_i hb
      cases h
      obtain ⟨h1, h2⟩ := scanS_out 3 _ _ _ hs
      rw [List.append_nil] at h2
      exact ⟨⟨h1, hb.1, hb.2⟩, cs_inj (by rw [cs_text]; exact h2)⟩
    · cases h
  · cases h
theorem shapeOf_in {t : Tr} (h : good t) : shapeOf t.text = some t := by
  have e := scanS_in 3 t [] h.1
  rw [List.append_nil, ← cs_text] at e
  unfold shapeOf
  rw [e]
  exact if_pos ⟨h.2.1, h.2.2⟩
theorem fineF_mono {p q : Tr → Prop} (h : ∀ t, p t → q t) : ∀ {n : Nat} {kn : List Str} {t : Tr}, FineF p n kn t → FineF q n kn t
  | 0, _, _, hf => hf.elim
  | _ + 1, _, .nil, hf => hf.elim
  | n + 1, kn, .cons w t r, ⟨h1, h2, h3, h4⟩ => ⟨h1, h2, h t h3, h4.imp (fun z => z) fun z => fineF_mono h z⟩
theorem fine_mono : ∀ {f : Nat} {t : Tr}, Fine f t → Fine (f + 1) t
  | 0, _, h => .inl h
  | _ + 1, _, h => h.imp (fun z => z) fun z => fineF_mono (fun _ y => fine_mono y) z
theorem fineF_fields {p : Tr → Prop} : ∀ {n : Nat} {kn : List Str} {t : Tr}, FineF p n kn t → (∀ m ∈ t.fields, p m.2 ∧ isWord m.1 = true ∧ m.1 ∉ kn) ∧ (t.fields.map (·.1)).Nodup
  | 0, _, _, hf => hf.elim
  | _ + 1, _, .nil, hf => hf.elim
  | n + 1, kn, .cons w t r, ⟨h1, h2, h3, h4⟩ => by
    have hr : (∀ m ∈ r.fields, p m.2 ∧ isWord m.1 = true ∧ m.1 ∉ kn ++ [w]) ∧ (r.fields.map (·.1)).Nodup := by
      rcases h4 with rfl | h4
      · exact ⟨(fun m hm => nomatch hm), List.nodup_nil⟩
      · exact fineF_fields h4
    have ef : (Tr.cons w t r).fields = (w, t) :: r.fields := rfl
    rw [ef]
    refine ⟨fun m hm => ?_, ?_⟩
    · rcases List.mem_cons.mp hm with e | hm
      · rw [e]
        exact ⟨h3, h1, h2⟩
      · obtain ⟨a, b, c⟩ := hr.1 m hm
        exact ⟨a, b, fun z => c (List.mem_append_left _ z)⟩
    · rw [List.map_cons, List.nodup_cons]
      refine ⟨fun z => ?_, hr.2⟩
      obtain ⟨m, hm, e⟩ := List.mem_map.mp z
      exact (hr.1 m hm).2.2 (by rw [e]; simp)
theorem fine_fields {f : Nat} {t : Tr} (h : Fine f t) : (∀ m ∈ t.fields, Fine f m.2 ∧ isWord m.1 = true) ∧ (t.fields.map (·.1)).Nodup := by
  have nl : (∀ m ∈ (Tr.nil).fields, Fine f m.2 ∧ isWord m.1 = true) ∧ ((Tr.nil).fields.map (·.1)).Nodup := ⟨(fun m hm => nomatch hm), List.nodup_nil⟩
  cases f with
  | zero =>
    have e : t = .nil := h
    rw [e]
    exact nl
  | succ f =>
    rcases h with e | h
    · rw [e]
      exact nl
    · obtain ⟨a, b⟩ := fineF_fields h
      exact ⟨fun m hm => ⟨fine_mono (a m hm).1, (a m hm).2.1⟩, b⟩
theorem le_sum : ∀ {l : List Nat} {x : Nat}, x ∈ l → x ≤ l.sum
  | y :: l, x, h => by
    rw [List.sum_cons]
    rcases List.mem_cons.mp h with e | h
    · omega
    · have := le_sum h
      omega
theorem good_fields {t : Tr} (h : good t) : (∀ m ∈ t.fields, good m.2 ∧ isWord m.1 = true) ∧ (t.fields.map (·.1)).Nodup := by
  obtain ⟨h1, h2, h3⟩ := h
  obtain ⟨a, b⟩ := fine_fields h1
  refine ⟨fun m hm => ⟨⟨(a m hm).1, ?_, ?_⟩, (a m hm).2⟩, b⟩
  · have z := le_sum (List.mem_map.mpr ⟨m, hm, rfl⟩ : m.2.recs ∈ t.fields.map fun p => p.2.recs)
    have e := Tr.srec_eq t
    have : t.isNil = false := by cases t with | nil => exact nomatch hm | cons _ _ _ => rfl
    have er : t.recs = 1 + t.srec := by unfold Tr.recs; rw [this]; rfl
    omega
  · have z := le_sum (List.mem_map.mpr ⟨m, hm, rfl⟩ : m.2.plains ∈ t.fields.map fun p => p.2.plains)
    have e := Tr.spla_eq t
    have : t.isNil = false := by cases t with | nil => exact nomatch hm | cons _ _ _ => rfl
    have er : t.plains = t.spla := by unfold Tr.plains; rw [this]; rfl
    omega
theorem good_has {t : Tr} (h : good t) : t.depth ≤ 3 ∧ t.size ≤ 39 ∧ t.short := by
  obtain ⟨a, b, c⟩ := fine_has 3 t h.1
  exact ⟨a, Nat.le_trans b (bnd3 (Nat.le_refl _)), c⟩
/-! ### promises of the readers -/
def sp_bounded : Sp := fun vs H Q _ => ∃ t v, vs = [v] ∧ TrAt H t v ∧ t.depth < 4 ∧ t.size ≤ 1000 ∧ t.short ∧ ∀ H', Same H H' → Q (.bl (decide (t.recs ≤ 5 ∧ t.plains ≤ 5))) H'
def sp_tree_of (K : PySem.W.Frag) : Sp := fun vs H Q _ => ∃ x, vs = [x] ∧ ((∃ z : Str, x = .str z ∧ z.length ≤ 100000 ∧ ∀ H', Same H H' → (match shapeOf z with
    | none => Q .non H'
    | some t => ∀ v, TrAt H' t v → Q v H')) ∨ (NotStr K H x ∧ ∀ H', Same H H' → Q .non H'))
/-! ### a class by its name -/
structure CalM (P : Program) (w : World) (K : PySem.W.Frag) (mg : Str → Option Value) (base : Heap) (k : Nat) (x : Str) (C : Addr) (ps : List Str) (sp : Sp) : Prop where
  ex : ∃ f fd, Mk K C f ∧ FnOk P w K mg base (CX P w) k f fd ps sp ∧ mg x = some (.ref C) ∧ Binds K fd ps []
def tMakeS (C : Addr) (sp : Sp) (E : L2.St → XK) (t : TA) : TE := fun σ H Q => t σ H fun vs H1 => ∀ x dx, H1 x = none → H1 dx = none → dx ≠ x → sp (.ref x :: vs) (upd (upd H1 dx (.own x)) x (.ins C dx [])) (fun v H2 => v = .non ∧ Q (.ref x) H2) (E σ)
section
variable {X : Cx} {k : Nat} {x : Str} {C : Addr} {ps : List Str} {sp : Sp} {e : Expr} {es : List Expr} {p pos : Pos} {t : TA} {E : L2.St → XK}
theorem passE0 {σ : L2.St} : PassesAt (CX X.prog X.w) X σ E0 := fun _ _ _ _ _ _ ⟨_, _, _, _, _, _, _, _, _, _, _, _, z⟩ => z.elim
theorem passW {W : WX} (tk : Takes X W) (σ : L2.St) : PassesAt (CX X.prog X.w) X σ (fun cls d H => W cls d σ H) := fun _ _ _ _ _ I c => tk _ _ (XE.of_call I (fun _ _ _ h => h) c)
theorem pe_makeS (c : CalM X.prog X.w X.K X.mg X.base k x C ps sp) (hx : ∀ σ, PassesAt (CX X.prog X.w) X σ (E σ)) (hr : Room (k + 1) X.A) (hg : Gl X x)
    (ha : PA X (e :: es) t) (hdb : (x == ("__debug__" : Str)) = false := by decide) (he : starEach (e :: es) X.env = (false, eval e X.env) :: starEach es X.env := by rfl) (hpl : (backTo pos (starEach es X.env)).any (·.1) = false := by rfl) :
    PE X (.Call (.Name x p) (e :: es) [] pos) (tMakeS C sp E t) := by
  obtain ⟨f, fd, M, F, hm, hb⟩ := c.ex
  refine ⟨fun pins s σ H Q I h => wpAny_Call_Name_kw (ld_glob I hg hm ?_ hdb)⟩
  refine PySem.W.callWith_K (h₀ := X.base) I.ok.mod.kin M.kp (thn (ha.run pos pins s σ H _ I h) fun us s1 ⟨vs, H1, J, rv, q⟩ => ⟨J.kIn, ?_⟩) he hpl
  have z := q (s1.heap.objs.size + 1) s1.heap.objs.size (J.hok.fresh (Nat.le_succ _)) (J.hok.fresh (Nat.le_refl _)) (Nat.ne_of_lt (Nat.lt_succ_self _))
  have J2 := Inv.made (C := C) J
  have r2 : Vals (V.ref (s1.heap.objs.size + 1) :: vs) (Value.ref (s1.heap.objs.size + 1) :: us) := .cons rfl rv
  have hl : (Value.ref (s1.heap.objs.size + 1) :: us).length = ps.length := by
    rw [← r2.length]
    exact F.len _ _ _ _ z
  have bi := hb _ (Value.ref (s1.heap.objs.size + 1) :: us) J2.kIn (by rw [List.append_nil]; exact hl)
  rw [List.append_nil] at bi
  refine wpAny_call (make_map (f := f) J.kIn M.makes M.init (beq_iff_eq.mp M.fn) (codeAny_mono (F.run _ X.stack _ _ ⟨Value.ref (s1.heap.objs.size + 1) :: us, []⟩ _ _ _ (E σ) (hr.make C us []) (J2.env0.make C us []) bi r2 z) fun r s2 hq => ?_))
  match r, hq with
  | .error e, hq => exact hx σ pins _ _ e s2 J2 hq
  | .ok (.ret u), hq =>
    obtain ⟨v, H2, J3, r3, ev, q3⟩ := J2.after hq
    subst ev
    exact ⟨r3, .ref _, H2, J3, rfl, q3⟩
end
/-! ### the objects of a shape -/
inductive Sg where
  | nil
  | cons (w : Str) (p : Addr) (sub r : Sg)
namespace Sg
def tr : Sg → Tr
  | nil => .nil
  | cons w _ s r => .cons w s.tr r.tr
def dict : Sg → List (Key × V)
  | nil => []
  | cons w p _ r => (.inr w, .ref p) :: r.dict
def app : Sg → Sg → Sg
  | nil, h => h
  | cons w p s r, h => cons w p s (r.app h)
/-- a path below a field -/
def ext (w : Str) : Key → Key
  | .inl i => .inl i
  | .inr p => .inr (("." : Str) ++ w ++ Txt.mul p (if p = "." then 0 else 1))
def puts : Sg → List (Key × V) → List (Key × V)
  | nil, acc => acc
  | cons w p s r, acc => r.puts ((s.puts [(.inr ".", .ref p)]).foldl (fun a kv => putK a (ext w kv.1) kv.2) acc)
def spots (g : Sg) (x : Addr) : List (Key × V) := g.puts [(.inr ".", .ref x)]
theorem app_tr : ∀ (g h : Sg), (g.app h).tr.fields = g.tr.fields ++ h.tr.fields
  | nil, _ => rfl
  | cons w p s r, h => congrArg (List.cons (w, s.tr)) (app_tr r h)
theorem app_dict : ∀ (g h : Sg), (g.app h).dict = g.dict ++ h.dict
  | nil, _ => rfl
  | cons w p s r, h => congrArg (List.cons _) (app_dict r h)
theorem app_puts : ∀ (g h : Sg) (acc : List (Key × V)), (g.app h).puts acc = h.puts (g.puts acc)
  | nil, _, _ => rfl
  | cons w p s r, h, acc => app_puts r h _
end Sg
/-- Z: where its things may lie -/
def Sh1 (Z : Addr → Prop) (C : Addr) (H : Hp) (x : Addr) (g : Sg) : Prop := ∃ dx tv na fa sa, H x = some (.ins C dx [("text", .str g.tr.text), ("tree", tv), ("names", .ref na), ("fields", .ref fa), ("spots", .ref sa)]) ∧ TrAt H g.tr tv ∧
  H na = some (.tup (g.tr.fields.map fun m => .str m.1)) ∧ H fa = some (.dK g.dict) ∧ H sa = some (.dK (g.spots x)) ∧ Z x ∧ Z fa ∧ Z sa
def ShL (Z : Addr → Prop) (C : Addr) (H : Hp) : Sg → Prop
  | .nil => True
  | .cons _ p s r => Sh1 Z C H p s ∧ ShL Z C H s ∧ ShL Z C H r
def ShG (Z : Addr → Prop) (C : Addr) (H : Hp) (x : Addr) (g : Sg) : Prop := Sh1 Z C H x g ∧ ShL Z C H g
/-- what of the places Z is no list stays, and all tuples -/
def Kz (Z : Addr → Prop) (H H' : Hp) : Prop := ∀ b o, H b = some o → (∀ xs, o ≠ .lst xs) → (Z b ∨ ∃ xs, o = .tup xs) → H' b = some o
theorem Sh1.kz {Z : Addr → Prop} {C : Addr} {H H' : Hp} {x : Addr} {g : Sg} (k : Kz Z H H') (h : Sh1 Z C H x g) : Sh1 Z C H' x g := by
  obtain ⟨dx, tv, na, fa, sa, h1, h2, h3, h4, h5, z1, z2, z3⟩ := h
  exact ⟨dx, tv, na, fa, sa, k _ _ h1 (fun _ z => nomatch z) (.inl z1), h2.tups (fun c xs z => k _ _ z (fun _ y => nomatch y) (.inr ⟨_, rfl⟩)), k _ _ h3 (fun _ z => nomatch z) (.inr ⟨_, rfl⟩), k _ _ h4 (fun _ z => nomatch z) (.inl z2), k _ _ h5 (fun _ z => nomatch z) (.inl z3), z1, z2, z3⟩
theorem ShL.kz {Z : Addr → Prop} {C : Addr} {H H' : Hp} (k : Kz Z H H') : ∀ {g : Sg}, ShL Z C H g → ShL Z C H' g
  | .nil, _ => trivial
  | .cons _ _ _ _, ⟨a, b, c⟩ => ⟨a.kz k, ShL.kz k b, ShL.kz k c⟩
/-- the places may be told by the things themselves -/
theorem Sh1.imp {Z Z' : Addr → Prop} {C : Addr} {H : Hp} {x : Addr} {g : Sg} (i : ∀ b, Z b → H b ≠ none → Z' b) (h : Sh1 Z C H x g) : Sh1 Z' C H x g := by
  obtain ⟨dx, tv, na, fa, sa, h1, h2, h3, h4, h5, z1, z2, z3⟩ := h
  exact ⟨dx, tv, na, fa, sa, h1, h2, h3, h4, h5, i _ z1 (by rw [h1]; simp), i _ z2 (by rw [h4]; simp), i _ z3 (by rw [h5]; simp)⟩
theorem ShL.imp {Z Z' : Addr → Prop} {C : Addr} {H : Hp} (i : ∀ b, Z b → H b ≠ none → Z' b) : ∀ {g : Sg}, ShL Z C H g → ShL Z' C H g
  | .nil, _ => trivial
  | .cons _ _ _ _, ⟨a, b, c⟩ => ⟨a.imp i, ShL.imp i b, ShL.imp i c⟩
theorem ShL.app {Z : Addr → Prop} {C : Addr} {H : Hp} : ∀ {g h : Sg}, ShL Z C H g → ShL Z C H h → ShL Z C H (g.app h)
  | .nil, _, _, h => h
  | .cons _ _ _ _, _, ⟨a, b, c⟩, h => ⟨a, b, ShL.app c h⟩
theorem ShG.kz {Z : Addr → Prop} {C : Addr} {H H' : Hp} {x : Addr} {g : Sg} (k : Kz Z H H') (h : ShG Z C H x g) : ShG Z C H' x g := ⟨h.1.kz k, h.2.kz k⟩
theorem ShG.imp {Z Z' : Addr → Prop} {C : Addr} {H : Hp} {x : Addr} {g : Sg} (i : ∀ b, Z b → H b ≠ none → Z' b) (h : ShG Z C H x g) : ShG Z' C H x g := ⟨h.1.imp i, h.2.imp i⟩
theorem kz_of {Z : Addr → Prop} {H H' : Hp} (s : Same H H') : Kz Z H H' := fun b o h _ _ => s b o h
theorem putF_snoc {f : Str} {v : V} : ∀ {fs : List (Str × V)}, f ∉ fs.map (·.1) → putF f v fs = fs ++ [(f, v)]
  | [], _ => rfl
  | (g, y) :: r, h => by
    rw [List.map_cons, List.mem_cons, not_or] at h
    unfold putF
    rw [if_neg (Ne.symm h.1), putF_snoc h.2]
    rfl
/-! ### sizes of the spots -/
def KeyOk (n : Nat) (kvs : List (Key × V)) : Prop := ∀ kv ∈ kvs, ∃ p : Str, kv.1 = .inr p ∧ p.length ≤ n
theorem KeyOk.put {n : Nat} {kvs : List (Key × V)} {p : Str} {v : V} (h : KeyOk n kvs) (hp : p.length ≤ n) : KeyOk n (putK kvs (.inr p) v) := by
  intro kv hk
  unfold putK at hk
  split at hk
  · obtain ⟨y, hy, e⟩ := List.mem_map.mp hk
    obtain ⟨q, e1, e2⟩ := h y hy
    by_cases c : y.1 = .inr p
    · rw [if_pos c] at e
      rw [← e]
      exact ⟨q, e1, e2⟩
    · rw [if_neg c] at e
      rw [← e]
      exact ⟨q, e1, e2⟩
  · rcases List.mem_append.mp hk with hk | hk
    · exact h kv hk
    · simp only [List.mem_cons, List.not_mem_nil, or_false] at hk
      rw [hk]
      exact ⟨p, rfl, hp⟩
theorem putK_len (kvs : List (Key × V)) (k : Key) (v : V) : (putK kvs k v).length ≤ kvs.length + 1 := by
  unfold putK
  split
  · rw [List.length_map]; omega
  · rw [List.length_append]; exact Nat.le_refl _
theorem mulLen (z : Str) (n : Nat) : (Txt.mul z (n : Int)).length = z.length * n := by
  have h := len_mul z (n : Int)
  have e : (if decide ((n : Int) < 0) = true then (0 : Int) else (n : Int)) = (n : Int) := by
    rw [decide_eq_false (by omega)]
    rfl
  rw [e] at h
  have : (((Txt.mul z (n : Int)).length : Nat) : Int) = ((z.length * n : Nat) : Int) := by rw [h, Int.natCast_mul]
  omega
theorem mulLen01 (p : Str) (b : Bool) : (Txt.mul p (if b = true then 1 else 0)).length ≤ p.length := by
  cases b with
  | true =>
    have := mulLen p 1
    have e : (Txt.mul p (if true = true then 1 else 0)) = Txt.mul p ((1 : Nat) : Int) := rfl
    rw [e, this]
    omega
  | false =>
    have := mulLen p 0
    have e : (Txt.mul p (if false = true then 1 else 0)) = Txt.mul p ((0 : Nat) : Int) := rfl
    rw [e, this]
    omega
theorem ext_eq (w p : Str) : Sg.ext w (.inr p) = .inr (("." : Str) ++ w ++ Txt.mul p (if (!decide (V.str p = V.str ".")) = true then 1 else 0)) := by
  show Sum.inr (("." : Str) ++ w ++ Txt.mul p (if p = "." then 0 else 1)) = _
  by_cases h : p = "."
  · rw [if_pos h, decide_eq_true (by rw [h])]
    rfl
  · rw [if_neg h, decide_eq_false (fun e => h (V.str.inj e))]
    rfl
theorem dot_len : (("." : Str)).length = 1 := by decide +kernel
theorem ext_ok {w p : Str} {n : Nat} (hw : w.length ≤ 8) (hp : p.length ≤ n) : ∃ q : Str, Sg.ext w (.inr p) = .inr q ∧ q.length ≤ n + 9 := by
  refine ⟨_, ext_eq w p, ?_⟩
  have h := mulLen01 p (!decide (V.str p = V.str "."))
  rw [len_app, len_app, dot_len]
  omega
theorem fold_ok {w : Str} {m n : Nat} (hw : w.length ≤ 8) (hm : m + 9 ≤ n) : ∀ {l acc : List (Key × V)}, KeyOk m l → KeyOk n acc → KeyOk n (l.foldl (fun a kv => putK a (Sg.ext w kv.1) kv.2) acc)
  | [], _, _, h => h
  | kv :: l, acc, hl, h => by
    obtain ⟨p, e, lp⟩ := hl kv (List.mem_cons_self ..)
    obtain ⟨q, eq, lq⟩ := ext_ok hw lp
    refine fold_ok hw hm (l := l) (fun y hy => hl y (List.mem_cons_of_mem _ hy)) ?_
    show KeyOk n (putK acc (Sg.ext w kv.1) kv.2)
    rw [e, eq]
    exact h.put (by omega)
theorem fold_len (w : Str) : ∀ (l acc : List (Key × V)), (l.foldl (fun a kv => putK a (Sg.ext w kv.1) kv.2) acc).length ≤ acc.length + l.length
  | [], _ => Nat.le_refl _
  | kv :: l, acc => by
    have h := fold_len w l (putK acc (Sg.ext w kv.1) kv.2)
    have h2 := putK_len acc (Sg.ext w kv.1) kv.2
    rw [List.length_cons]
    exact Nat.le_trans h (by omega)
theorem puts_ok : ∀ {g : Sg} {acc : List (Key × V)} {n : Nat}, g.tr.short → (∀ m ∈ g.tr.fields, 9 * m.2.depth + 10 ≤ n) → KeyOk n acc → KeyOk n (g.puts acc)
  | .nil, _, _, _, _, h => h
  | .cons w p s r, acc, n, sh, hb, h => by
    have e : (Sg.cons w p s r).tr.fields = (w, s.tr) :: r.tr.fields := rfl
    rw [e] at hb
    obtain ⟨hw, hs⟩ := Tr.short_mem sh (p := (w, s.tr)) (by rw [e]; exact List.mem_cons_self ..)
    have hr : r.tr.short := sh.2.2
    have h0 := hb (w, s.tr) (List.mem_cons_self ..)
    have sub : KeyOk (9 * s.tr.depth + 1) (s.puts [(.inr ".", .ref p)]) := puts_ok hs (fun m hm => by have := Tr.depth_lt hm; omega) (fun kv hk => by
      simp only [List.mem_cons, List.not_mem_nil, or_false] at hk
      rw [hk]
      exact ⟨".", rfl, by rw [dot_len]; omega⟩)
    exact puts_ok (g := r) hr (fun m hm => hb m (List.mem_cons_of_mem _ hm)) (fold_ok hw (by have : 9 * s.tr.depth + 10 ≤ n := h0; omega) sub h)
theorem puts_len : ∀ (g : Sg) (acc : List (Key × V)), (g.puts acc).length ≤ acc.length + g.tr.size
  | .nil, _ => Nat.le_refl _
  | .cons w p s r, acc => by
    have h1 := puts_len s [(.inr ".", .ref p)]
    have h2 := fold_len w (s.puts [(.inr ".", .ref p)]) acc
    have h3 := puts_len r ((s.puts [(.inr ".", .ref p)]).foldl (fun a kv => putK a (Sg.ext w kv.1) kv.2) acc)
    have e : (Sg.cons w p s r).tr.size = 1 + s.tr.size + r.tr.size := rfl
    have e2 : (Sg.cons w p s r).puts acc = r.puts ((s.puts [(.inr ".", .ref p)]).foldl (fun a kv => putK a (Sg.ext w kv.1) kv.2) acc) := rfl
    rw [e, e2]
    simp only [List.length_cons, List.length_nil] at h1
    omega
theorem app_size : ∀ (g h : Sg), (g.app h).tr.size = g.tr.size + h.tr.size
  | .nil, h => by show h.tr.size = 0 + h.tr.size; omega
  | .cons w p s r, h => by
    show 1 + s.tr.size + (r.app h).tr.size = 1 + s.tr.size + r.tr.size + h.tr.size
    rw [app_size r h]
    omega
theorem app_nil : ∀ g : Sg, g.app .nil = g
  | .nil => rfl
  | .cons w p s r => congrArg (Sg.cons w p s) (app_nil r)
theorem app_assoc : ∀ g h k : Sg, (g.app h).app k = g.app (h.app k)
  | .nil, _, _ => rfl
  | .cons w p s r, h, k => congrArg (Sg.cons w p s) (app_assoc r h k)
theorem ShL.right {Z : Addr → Prop} {C : Addr} {H : Hp} : ∀ {g h : Sg}, ShL Z C H (g.app h) → ShL Z C H h
  | .nil, _, h => h
  | .cons _ _ _ _, _, ⟨_, _, c⟩ => ShL.right c
theorem valV_at : ∀ {g1 : Sg} {w : Str} {p : Addr} {s r : Sg}, w ∉ g1.tr.fields.map (·.1) → valV (g1.app (.cons w p s r)).dict (.inr w) = some (.ref p)
  | .nil, w, p, s, r, _ => valV_pos rfl
  | .cons w0 p0 s0 r0, w, p, s, r, h => by
    have e : (Sg.cons w0 p0 s0 r0).tr.fields.map (·.1) = w0 :: r0.tr.fields.map (·.1) := rfl
    rw [e, List.mem_cons, not_or] at h
    show valV ((.inr w0, .ref p0) :: (r0.app (.cons w p s r)).dict) (.inr w) = _
    rw [valV_neg (fun z => h.1 (Sum.inr.inj z).symm)]
    exact valV_at h.2
theorem Sg.dict_keys : ∀ (g : Sg) (k : Key), (g.dict.any fun kv => decide (kv.1 = k)) = true → ∃ m ∈ g.tr.fields, k = .inr m.1
  | .nil, k, h => by simp [Sg.dict] at h
  | .cons w p s r, k, h => by
    have e : (Sg.cons w p s r).dict = (.inr w, .ref p) :: r.dict := rfl
    rw [e, List.any_cons, Bool.or_eq_true] at h
    rcases h with h | h
    · exact ⟨(w, s.tr), List.mem_cons_self .., (of_decide_eq_true h).symm⟩
    · obtain ⟨m, h1, h2⟩ := Sg.dict_keys r k h
      exact ⟨m, List.mem_cons_of_mem _ h1, h2⟩
theorem Sg.put_new {g : Sg} {w : Str} {v : V} (h : w ∉ g.tr.fields.map (·.1)) : putK g.dict (.inr w) v = g.dict ++ [(.inr w, v)] := by
  unfold putK
  rw [if_neg]
  intro z
  obtain ⟨m, h1, h2⟩ := g.dict_keys _ z
  exact h (List.mem_map.mpr ⟨m, h1, (Sum.inr.inj h2).symm⟩)
theorem Sg.dict_len : ∀ g : Sg, g.dict.length = g.tr.fields.length
  | .nil => rfl
  | .cons _ _ _ r => congrArg Nat.succ (Sg.dict_len r)
def sp_shape (K : PySem.W.Frag) (C B : Addr) (d : Nat) : Sp := fun vs H Q E => ∃ x y dx, vs = [.ref x, y] ∧ H x = some (.ins C dx []) ∧
  ((∃ t, good t ∧ t.depth < d ∧ y = .str t.text ∧ ∀ g H', g.tr = t → (∀ b o, H b = some o → b ≠ x → H' b = some o) → ShG (fun b => b = x ∨ H b = none) C H' x g → Q .non H') ∨
   (0 < d ∧ ((∃ z : Str, y = .str z ∧ z.length ≤ 100000 ∧ shapeOf z = none) ∨ NotStr K H y) ∧ ∀ e H', Same H H' → H e = none → H' e = some (.xd [("text", y)]) → E (.ref B) (some e) H'))
end Up

namespace Wb
open PySem PySem.Spec PyProof.Rows L2 Ub Up Uo
/-! ### C() of a class without __init__ -/
structure Mk0 (K : PySem.W.Frag) (C : Addr) : Prop where
  makes : PySem.W.makesIn K C = true
  init : PySem.W.findIn K (.ref C) "__init__" = some (some (.builtin "object.__init__"))
  kp : PySem.W.keepIn K (.ref C) = true
def mk0B (K : PySem.W.Frag) (C : Addr) : Bool := PySem.W.makesIn K C && (decide (PySem.W.findIn K (.ref C) "__init__" = some (some (.builtin "object.__init__"))) && PySem.W.keepIn K (.ref C))
theorem mk0B_ok {K : PySem.W.Frag} {C : Addr} (h : mk0B K C = true) : Mk0 K C := by
  obtain ⟨h1, h2⟩ := Bool.and_eq_true_iff.mp h
  obtain ⟨h2, h3⟩ := Bool.and_eq_true_iff.mp h2
  exact ⟨h1, of_decide_eq_true h2, h3⟩
def tNew0 (C : Addr) : TE := fun _ H Q => ∀ x dx, H x = none → H dx = none → dx ≠ x → Q (.ref x) (upd (upd H dx (.own x)) x (.ins C dx []))
section
variable {X : Cx} {x : Str} {C : Addr} {p pos : Pos}
theorem pe_new0 (M : Mk0 X.K C) (hg : Gl X x) (hm : X.mg x = some (.ref C)) (hdb : (x == ("__debug__" : Str)) = false := by decide) : PE X (.Call (.Name x p) [] [] pos) (tNew0 C) := by
  refine ⟨fun pins s σ H Q I h => wpAny_Call_Name_kw (ld_glob I hg hm ?_ hdb)⟩
  refine PySem.W.callWith_K0 (first := []) I.kIn M.kp (wpAny_call ?_)
  have J := Inv.made (C := C) I
  have z := h (s.heap.objs.size + 1) s.heap.objs.size (I.hok.fresh (Nat.le_succ _)) (I.hok.fresh (Nat.le_refl _)) (Nat.ne_of_lt (Nat.lt_succ_self _))
  refine make_map0 I.kIn M.makes M.init (fun self => PySem.W.Looks.of_pure (PySem.W.oi_bind self)) ?_
  have Y := PySem.W.makes_of (M := model X.prog X.w) I.kIn M.makes
  have at_ : ((s.heap.push PySem.W.emptyDict).push (PySem.W.instObj C s.heap.objs.size)).get? (s.heap.objs.size + 1) = some (PySem.W.instObj C s.heap.objs.size) := by
    have := Heap.get?_push_size (o := PySem.W.instObj C s.heap.objs.size) (s.heap.push PySem.W.emptyDict) rfl
    rwa [Heap.size_push] at this
  have ty : PySem.W.Looks (model X.prog X.w) ((s.heap.push PySem.W.emptyDict).push (PySem.W.instObj C s.heap.objs.size)) (typeOf (.ref (s.heap.objs.size + 1))) (.ref C) := (PySem.W.Looks.ld at_).andThen .now
  have ob : PySem.W.Looks (model X.prog X.w) ((s.heap.push PySem.W.emptyDict).push (PySem.W.instObj C s.heap.objs.size)) (isInstance (.ref (s.heap.objs.size + 1)) (.type "object")) true :=
    ty.andThen (Y.top.keeps fun b o e => Heap.get?_push_of_some _ (Heap.get?_push_of_some _ e))
  refine codeAny_call_builtin PySem.W.oi_plain PySem.W.entry_oi (PySem.W.check_slot (i := "object.__init__") (owner := "object") (n := "__init__") PySem.W.oi_kind PySem.W.oi_split ob (PySem.W.oi_args _) ?_)
  rw [PySem.W.oi_run]
  exact wpAny_pure (And.intro rfl ⟨.ref _, _, J, rfl, z⟩)
end
/-! ### a class whose __init__ has defaults -/
structure CalMD (P : Program) (w : World) (K : PySem.W.Frag) (mg : Str → Option Value) (base : Heap) (k : Nat) (x : Str) (C : Addr) (ps : List Str) (dvs : List V) (sp : Sp) : Prop where
  ex : ∃ f fd ds, Mk K C f ∧ FnOk P w K mg base (CX P w) k f fd ps sp ∧ mg x = some (.ref C) ∧ Binds K fd ps ds ∧ Vals dvs ds
def tMakeD (C : Addr) (sp : Sp) (dvs : List V) (E : L2.St → XK) (t : TA) : TE := fun σ H Q => t σ H fun vs H1 => ∀ x dx, H1 x = none → H1 dx = none → dx ≠ x → sp (.ref x :: (vs ++ dvs)) (upd (upd H1 dx (.own x)) x (.ins C dx [])) (fun v H2 => v = .non ∧ Q (.ref x) H2) (E σ)
theorem pe_makeD {X : Cx} {k : Nat} {x : Str} {C : Addr} {ps : List Str} {dvs : List V} {sp : Sp} {e : Expr} {es : List Expr} {p pos : Pos} {t : TA} {E : L2.St → XK} (c : CalMD X.prog X.w X.K X.mg X.base k x C ps dvs sp) (hx : ∀ σ, PassesAt (CX X.prog X.w) X σ (E σ)) (hr : Room (k + 1) X.A) (hg : Gl X x)
    (ha : PA X (e :: es) t) (hdb : (x == ("__debug__" : Str)) = false := by decide) (he : starEach (e :: es) X.env = (false, eval e X.env) :: starEach es X.env := by rfl) (hpl : (backTo pos (starEach es X.env)).any (·.1) = false := by rfl) :
    PE X (.Call (.Name x p) (e :: es) [] pos) (tMakeD C sp dvs E t) := by
  obtain ⟨f, fd, ds, M, F, hm, hb, hv⟩ := c.ex
  refine ⟨fun pins s σ H Q I h => wpAny_Call_Name_kw (ld_glob I hg hm ?_ hdb)⟩
  refine PySem.W.callWith_K (h₀ := X.base) I.ok.mod.kin M.kp (thn (ha.run pos pins s σ H _ I h) fun us s1 ⟨vs, H1, J, rv, q⟩ => ⟨J.kIn, ?_⟩) he hpl
  have z := q (s1.heap.objs.size + 1) s1.heap.objs.size (J.hok.fresh (Nat.le_succ _)) (J.hok.fresh (Nat.le_refl _)) (Nat.ne_of_lt (Nat.lt_succ_self _))
  have J2 := Inv.made (C := C) J
  have r2 : Vals (V.ref (s1.heap.objs.size + 1) :: (vs ++ dvs)) (Value.ref (s1.heap.objs.size + 1) :: (us ++ ds)) := .cons rfl (rv.append hv)
  have hl : ((Value.ref (s1.heap.objs.size + 1) :: us) ++ ds).length = ps.length := by
    show (Value.ref (s1.heap.objs.size + 1) :: (us ++ ds)).length = _
    rw [← r2.length]
    exact F.len _ _ _ _ z
  have bi := hb _ (Value.ref (s1.heap.objs.size + 1) :: us) J2.kIn hl
  refine wpAny_call (make_map (f := f) J.kIn M.makes M.init (beq_iff_eq.mp M.fn) (codeAny_mono (F.run _ X.stack _ _ ⟨Value.ref (s1.heap.objs.size + 1) :: us, []⟩ _ _ _ (E σ) (hr.make C us []) (J2.env0.make C us []) bi r2 z) fun r s2 hq => ?_))
  match r, hq with
  | .error e, hq => exact hx σ pins _ _ e s2 J2 hq
  | .ok (.ret u), hq =>
    obtain ⟨v, H2, J3, r3, ev, q3⟩ := J2.after hq
    subst ev
    exact ⟨r3, .ref _, H2, J3, rfl, q3⟩
/-! ### o[i] = e by an own __setitem__ -/
def gSubO (C : Addr) (sp : Sp) (E : L2.St → XK) (to ti : TE) : TG := fun v σ H Q => to σ H fun o H1 => ti σ H1 fun i H2 => ∃ a dx fs, o = .ref a ∧ H2 a = some (.ins C dx fs) ∧ sp [.ref a, i, v] H2 (fun _ H3 => Q σ H3) (E σ)
theorem pg_subO {X : Cx} {CX : CXT} {k : Nat} {C : Addr} {ps : List Str} {sp : Sp} {E : L2.St → XK} {o i : Expr} {to ti : TE} {pos : Pos} (c : CalK X.prog X.w X.K X.mg X.base CX k C "__setitem__" ps sp) (ns : PySem.W.noSeq X.K C = true) (hx : ∀ σ, PassesAt CX X σ (E σ)) (hr : Room k X.A) (ho : PE X o to) (hi : PE X i ti)
    (ha : ∀ v, assign (.Subscript o i pos) X.env v = (do
      let ov ← holding [v] (eval o X.env)
      let iv ← holding [v, ov] (eval i X.env)
      standAt pos
      holding [v, ov, iv] (setItem ov iv v)
      release [v, ov, iv] []) := by intro _; rfl) : PG X (.Subscript o i pos) (gSubO C sp E to ti) := by
  obtain ⟨f, fd, M, _, F, hb⟩ := c.ex
  refine ⟨fun pins s σ H v u Q I r h => ?_⟩
  rw [ha]
  refine wpAny_bind (wpAny_holding (thn (ho.run pins s σ H _ I h) fun ov s1 ⟨x1, H1, I1, r1, q1⟩ => wpAny_bind (wpAny_holding ?_)))
  refine thn (hi.run pins s1 σ H1 _ I1 q1) fun iv s2 ⟨y, H2, I2, r2, a, dx, fs, ex, ea, q2⟩ => ?_
  subst ex
  cases r1
  obtain ⟨ox, od, J⟩ := inst_of I2 ea
  refine wpAny_bind (wpAny_standAt (wpAny_bind (wpAny_holding ?_)))
  refine setItem_own I2.kIn J ns M (wpAny_mono (run_fnA (vs := [.ref a, y, v]) F hr hb (hx σ) I2 (.cons rfl (.cons r2 (.cons r .nil))) q2) (fun _ s3 ⟨_, H3, I3, _, q3⟩ => ?_) fun _ _ z => z)
  exact wpAny_release ⟨σ, H3, I3, q3⟩
/-! ### several except clauses, each with a name -/
abbrev Cls4 : Type := Value × Nat × (Addr → Value → Option Addr → TS)
/-- behind a suite its name is gone -/
def gone (i : Nat) (D : Ends) : Ends := ⟨fun σ H => D.nx (σ.set i none) H, D.rt, fun σ H => D.bk (σ.set i none) H, fun σ H => D.ct (σ.set i none) H⟩
/-- what the clauses wish of what the body raises -/
def wManyA (K : PySem.W.Frag) (Wout : WX) (D : Ends) : List Cls4 → WX
  | [] => Wout
  | (c, i, ts) :: r => fun cls d σ H => ∃ b, PySem.W.exmOne K cls c = some b ∧ (b = true → ∀ a, H a = none → ts a cls d (gone i D) (σ.set i (some (.ref a))) H) ∧ (b = false → wManyA K Wout D r cls d σ H)
inductive HdsA (X : Cx) : List ExceptHandler → List Cls4 → Prop
  | nil : HdsA X [] []
  | cons {x n : Str} {i : Nat} {c : Value} {ts : Addr → Value → Option Addr → TS} {b0 : Stmt} {su : List Stmt} {np pos' : Pos} {hds : List ExceptHandler} {l : List Cls4} (hi : X.N[i]? = some n) (hln : X.env.kindOf n = some .local) (hc : Names X x c)
      (hsu : ∀ (a : Addr) (oe : Obj) (cls : Value) (d : Option Addr) (pn : List (Addr × Obj)), Zc cls d oe → (∃ vs, oe.data = .fields vs) → PSs (X.suite a ((a, oe) :: pn)) (b0 :: su) (ts a cls d)) (r : HdsA X hds l) :
      HdsA X (.ExceptHandler (some (.Name x np)) (some n) (b0 :: su) pos' :: hds) ((c, i, ts) :: l)
section
variable {X : Cx} {pins : List (Addr × Obj)} {D : Ends} {Wout : WX} {er : Addr} {Bh : Heap} {q0 q1 : Shared} {ρ : L2.St} {G : Hp} {kl : Value} {dc : Option Addr} {hh : Heap}
/-- no frame is what an exception is -/
theorem off_frames {fr : List Env} {ob : Obj} {vs : Array Value} (ff : hh.FunFrames Bh fr) (e : hh.get? er = some ob) (dd : ob.data = .fields vs) : er ∉ frs fr := fun hm => by
  obtain ⟨_, ob', e', hn⟩ := ff.mem hm
  cases e.symm.trans e'
  exact hn _ dd
theorem off_locals (hf : X.env.frame = some X.env.locals) (n : er ∉ frs (X.env :: X.outer)) : er ≠ X.env.locals ∧ er ∉ X.fs :=
  ⟨fun z => n (List.mem_filterMap.mpr ⟨X.env, List.mem_cons_self, by rw [hf, z]⟩), fun hm => by
    obtain ⟨e, he, q⟩ := List.mem_filterMap.mp hm
    exact n (List.mem_filterMap.mpr ⟨e, List.mem_cons_of_mem _ he, q⟩)⟩
/-- the clauses, one after the other, while the exception flies -/
theorem clauses (ok : X.Ok) (hN : X.N.Nodup) (hs : X.stack = X.env :: X.outer) (hf : X.env.frame = some X.env.locals) (tk : Takes X Wout) (J : Inv X pins ρ G q0) (nb : ∀ b o, q0.heap.get? b = some o → b ∉ frs X.stack → Bh.get? b = some o)
    (up : q0.heap.UpToSlots hh) (fl : HandSPX.FlyingZ Bh (X.env :: X.outer) er (Zc kl dc) hh) (na : G er = none) (os : q1.os = q0.os) (ag : AllBare q1.gens) :
    ∀ {hds : List ExceptHandler} {l : List Cls4}, HdsA X hds l → wManyA X.K Wout D l kl dc ρ G → wpAny (model X.prog X.w) X.A (handleBy (.ref er) X.env hds) (SP X pins D) X.xe { q1 with heap := hh } := by
  obtain ⟨oe, vs, he, hz, hd⟩ := fl.there
  obtain ⟨nL, nF⟩ := off_locals hf (off_frames fl.2.2.1 he hd)
  have J3 : Inv X pins ρ G { q1 with heap := hh } := J.landed nb fl.1 up os ag
  have S3 := J3.suite he hd na nL nF
  intro hds l hk
  induction hk with
  | nil =>
    intro wish
    refine wpAny_handleBy_nil ?_
    obtain ⟨_, _, _, ob, ws, Tb, _, _, eo, _, dd, e1, _⟩ := id fl
    unfold PySem.passOn
    refine wpAny_bind (wpAny_field eo dd e1 ?_)
    rw [if_neg (show ¬ ((Value.ref Tb == Value.none) = true) by simp)]
    have last : wpAny (model X.prog X.w) X.A (setFlight (.ref er) X.env.frame) (fun _ z => wpAny (model X.prog X.w) X.A (throw (.ref er) : Sem Flow) (SP X pins D) X.xe z) X.xe { q1 with heap := hh } := by
      rw [hf]
      refine HandSPX.setFlight_upZ fl fun h4 k4 u4 => wpAny_throw (tk _ _ ⟨er, Bh, q0, pins, ρ, G, kl, dc, rfl, J, nb, up.trans u4, .inr (.inr ?_), na, os, ag, wish⟩)
      rw [hs]
      exact k4
    first
      | exact wpAny_bind (wpAny_pure (wpAny_bind last))
      | exact wpAny_bind last
  | @cons x n i c ts b0 su np pos' hds2 l2 hi hln hc hsu r ih =>
    intro wish
    obtain ⟨b, hb1, hyes, hno⟩ := wish
    refine wpAny_handleBy_cons (codeAny_handlers_test ?_) (by intro q; cases q)
    have ty : PySem.W.Looks (model X.prog X.w) hh (typeOf (.ref er)) kl := looks_ref he hz.1
    have mt := PySem.W.exm_one (M := model X.prog X.w) J3.kIn ty hb1
    have ask : ∀ {Q : Value → Shared → Prop} {E : Value → Shared → Prop}, Q c { q1 with heap := hh } → wpAny (model X.prog X.w) (X.A.mark (some (.ref er))) (eval (.Name x np) X.env) Q E { q1 with heap := hh } := fun {Q E} q => by
      obtain ⟨g1, g2, g3 | ⟨g3, g4, g5⟩⟩ := hc
      · exact ld_glob (X := X.suite er ((er, oe) :: (X.pn ++ pins))) S3 g1 g3 q g2
      · exact ld_blt (X := X.suite er ((er, oe) :: (X.pn ++ pins))) S3 g1 g3 g4 q g5 g2
    refine ask (mt.here ?_)
    cases b with
    | false => exact ih (hno rfl)
    | true =>
      refine codeAny_handlers_suite_as (HandSPX.lands_againZ fl fun h4 f4 u4 => ?_)
      have J4 : Inv X pins ρ G { q1 with heap := h4 } := J.landed nb f4.1 (up.trans u4) os ag
      obtain ⟨oe4, vs4, he4, hz4, hd4⟩ := f4.there
      refine store_ok (X := X.suite er ((er, oe4) :: (X.pn ++ pins))) (v := .ref er) (J4.suite he4 hd4 na nL nF) hN hi (.inl hln) rfl (fun s5 S5 => ?_) (.inr hln)
      refine wpAny_mono ((hsu er oe4 kl dc (X.pn ++ pins) hz4 ⟨_, hd4⟩).run [] s5 _ G _ S5 (hyes rfl er na)) (fun f s6 fin => ?_) (fun _ _ z => z.elim)
      have off : ∀ {ρ6 : L2.St} {G6 : Hp} {Q : Shared → Prop}, Inv (X.suite er ((er, oe4) :: (X.pn ++ pins))) [] ρ6 G6 s6 → (∀ s7, Inv X pins (ρ6.set i none) G6 s7 → Q s7) →
          wpAny (model X.prog X.w) X.A (do bindName X.env n .none; unbindBehindTheSuite X.env n pos') (fun _ s7 => Q s7) X.xe s6 := fun S6 hq => gone_ok (S6.unsuite ok) hN hi hln hq
      cases f with
      | next => obtain ⟨_, _, S6, q6⟩ := fin; exact off S6 fun s7 J7 => ⟨_, _, J7, q6⟩
      | brk => obtain ⟨_, _, S6, q6⟩ := fin; exact off S6 fun s7 J7 => ⟨_, _, J7, q6⟩
      | cont => obtain ⟨_, _, S6, q6⟩ := fin; exact off S6 fun s7 J7 => ⟨_, _, J7, q6⟩
      | ret u => obtain ⟨_, _, _, S6, r6, q6⟩ := fin; exact off S6 fun s7 J7 => ⟨_, _, _, J7, r6, q6⟩
end
section
variable {X : Cx} {body : List Stmt} {h0 : ExceptHandler} {hds : List ExceptHandler} {l : List Cls4} {pos : Pos} {tb : WX → TS} {Wout : WX}
theorem ps_try_manyA (hs : X.stack = X.env :: X.outer) (hf : X.env.frame = some X.env.locals) (hN : X.N.Nodup) (tk : Takes X Wout)
    (hb : ∀ (W : WX) (pn : List (Addr × Obj)) (xe : Value → Shared → Prop), Takes (X.tr pn xe) W → PassesOwn (model X.prog X.w) X.A X.env xe → PSs (X.tr pn xe) body (tb W)) (hk : HdsA X (h0 :: hds) l) :
    PS X (.Try body (h0 :: hds) [] [] pos) (fun D σ H => tb (wManyA X.K Wout D l) D σ H) := by
  refine ⟨fun pins s σ H D I h => wpAny_Try_except ?_⟩
  have ok := I.ok
  refine wpAny_mono ((hb (wManyA X.K Wout D l) (X.pn ++ pins) (fun e s₁ => wpAny (model X.prog X.w) X.A (noteFrame e X.env) (fun _ s₂ => wpAny (model X.prog X.w) X.A (setFlight e none) (fun _ s₃ =>
    wpAny (model X.prog X.w) X.A (handleBy e X.env (h0 :: hds)) (SP X pins D) X.xe s₃) X.xe s₂) X.xe s₁) (fun u s' xx => ?_) PassesOwn.looking).run [] s σ H D (I.toTry _) h) (fun f s1 fin => ?_) (fun _ _ z => z)
  · obtain ⟨er, Bh, q0, _, ρ, G, kl, dc, rfl, J', nb, up, sky, na, os, ag, wish⟩ := xx
    have sky' : Sky Bh (X.env :: X.outer) er (Zc kl dc) X.env.locals s'.heap := by rw [← hs]; exact sky
    refine Sky.land Zc.steady (by rw [ok.frames, hs]) hf sky' fun h3 f3 u3 => ?_
    exact clauses ok hN hs hf tk (J'.ofTry ok) nb (up.trans u3) f3 na os ag hk wish
  · cases f with
    | next => obtain ⟨_, _, J', q⟩ := fin; exact wpAny_execs_nil ⟨_, _, J'.ofTry ok, q⟩
    | brk => obtain ⟨_, _, J', q⟩ := fin; exact ⟨_, _, J'.ofTry ok, q⟩
    | cont => obtain ⟨_, _, J', q⟩ := fin; exact ⟨_, _, J'.ofTry ok, q⟩
    | ret u => obtain ⟨_, _, _, J', r, q⟩ := fin; exact ⟨_, _, _, J'.ofTry ok, r, q⟩
end
end Wb

namespace Ya
open PySem PySem.Spec PyProof.Rows L2 Ub Uo
/-! ### a class whose __init__ stands in a base class; a classmethod -/
def mkB (K : PySem.W.Frag) (C f : Addr) : Bool := PySem.W.makesIn K C && (decide (PySem.W.findIn K (.ref C) "__init__" = some (some (.ref f))) && (PySem.W.isFn K (.ref f) && PySem.W.keepIn K (.ref C)))
theorem mkB_ok {K : PySem.W.Frag} {C f : Addr} (h : mkB K C f = true) : Mk K C f := by
  obtain ⟨h1, h⟩ := He.ba h
  obtain ⟨h2, h⟩ := He.ba h
  obtain ⟨h3, h4⟩ := He.ba h
  exact ⟨h1, of_decide_eq_true h2, h3, h4⟩
/-- where a classmethod's def stands -/
def cAd (K : PySem.W.Frag) (x f : Str) : Addr := He5.wf K (He.ga K x) "classmethod" f
structure ClM (K : PySem.W.Frag) (x m : Str) : Prop where
  rd : ClX.CRead K (He.ga K x) (.type "type")
  cm : ClX.CMet K (He.ga K x) (.type "type") m (He.ma K (He.ga K x) m) (cAd K x m)
def clmB (K : PySem.W.Frag) (x m : Str) : Bool := PySem.W.readsIn K (He.ga K x) (.type "type") && (He5.wrapB K (He.ga K x) "classmethod" "classmethod.__get__" m && PySem.W.fnIn K (cAd K x m))
theorem clmB_ok {K : PySem.W.Frag} {x m : Str} (h : clmB K x m = true) : ClM K x m := by
  obtain ⟨h1, h⟩ := He.ba h
  obtain ⟨h2, h3⟩ := He.ba h
  refine ⟨⟨h1, ?_⟩, He5.cmet_of h2 h3⟩
  unfold PySem.W.readsIn at h1
  obtain ⟨h, _⟩ := He.ba h1
  obtain ⟨h, _⟩ := He.ba h
  obtain ⟨h, h3⟩ := He.ba h
  obtain ⟨_, h2⟩ := He.ba h
  unfold PySem.W.specialIn
  rw [beq_iff_eq.mp h2, Option.bind_some]
  exact beq_iff_eq.mp h3
end Ya

namespace Vk
open PySem PySem.Spec PyProof.Rows L2 Ub
/-! ### the top's facts over the objects at written places -/
def obsL (as : List Addr) (fa : List He.Fa) (fn : List He.DefD) (pn : List He5.DefA) (ex : PySem.W.Frag → Bool) (g : Addr → Option Obj) : AlP := ((He.obsT fa fn [] (He.frT g as), exP ex pn (He.frT g as)), fnP pn (He.frT g as))
def hookL (as : List Addr) (fa : List He.Fa) (fn : List He.DefD) (pn : List He5.DefA) (ex : PySem.W.Frag → Bool) : PySem.W.Hook where
  α := AlP
  obs := fun s => obsL as fa fn pn ex s.heap.get?
  val := fun w => valP fn pn w
  says := fun w h => ∃ K : PySem.W.Frag, K.In h ∧ SaysP fa fn pn ex w h K
  of := fun _ _ e => ⟨_, He.frT_in, ⟨congrArg (fun z : AlP => z.1.1) e, congrArg (fun z : AlP => z.1.2) e, (fun p hp => nomatch hp), (fun p hp => nomatch hp), (fun p hp => nomatch hp)⟩, congrArg (fun z : AlP => z.2) e⟩
  keeps := fun _ _ _ ⟨K, hK, c⟩ k => ⟨K, PySem.W.Frag.In.keeps hK k, ⟨c.x.t, c.x.more, c.x.hd, c.x.out, fun p hp => k _ _ (c.x.empty p hp)⟩, c.p⟩
theorem obsL_eq {as : List Addr} {fa : List He.Fa} {fn : List He.DefD} {pn : List He5.DefA} {ex : PySem.W.Frag → Bool} {g : Addr → Option Obj} {s : Shared} (h : ∀ a, g a = s.heap.get? a) : obsL as fa fn pn ex g = (hookL as fa fn pn ex).obs s := by
  have e : g = s.heap.get? := funext h
  rw [e] <;> rfl
/-- in parts -/
theorem obsD_app {R : PySem.W.OpenRow} {M : Nat} {w : World} {as : List Addr} {fa1 fa2 : List He.Fa} {fn1 fn2 : List He.DefD}
    (h1 : ∀ os, (Ux.EndAt R M w os).map (fun s => He.obsD fa1 fn1 (He.frT (HandSHeadRun.getT s) as)) = some (He.valD fn1)) (h2 : ∀ os, (Ux.EndAt R M w os).map (fun s => He.obsD fa2 fn2 (He.frT (HandSHeadRun.getT s) as)) = some (He.valD fn2)) :
    ∀ os, (Ux.EndAt R M w os).map (fun s => He.obsD (fa1 ++ fa2) (fn1 ++ fn2) (He.frT (HandSHeadRun.getT s) as)) = some (He.valD (fn1 ++ fn2)) := by
  intro os
  have e1 := h1 os
  have e2 := h2 os
  revert e1 e2
  cases Ux.EndAt R M w os with
  | none => intro e1 _; exact nomatch e1
  | some s =>
    intro e1 e2
    have f1 : He.obsD fa1 fn1 (He.frT (HandSHeadRun.getT s) as) = He.valD fn1 := Option.some.inj e1
    have f2 : He.obsD fa2 fn2 (He.frT (HandSHeadRun.getT s) as) = He.valD fn2 := Option.some.inj e2
    refine congrArg some ?_
    unfold He.obsD He.valD at f1 f2 ⊢
    simp only [Prod.mk.injEq, Bool.and_eq_true] at f1 f2 ⊢
    obtain ⟨⟨a1, a2⟩, a3⟩ := f1
    obtain ⟨⟨b1, b2⟩, b3⟩ := f2
    refine ⟨⟨?_, ?_⟩, ?_⟩
    · rw [List.all_append, a1, b1]; rfl
    · rw [List.all_append, a2, b2]; rfl
    · rw [List.map_append, List.map_append, a3, b3]
theorem obsL_of {R : PySem.W.OpenRow} {M : Nat} {w : World} {as : List Addr} {fa : List He.Fa} {fn : List He.DefD} {pn : List He5.DefA} {ex : PySem.W.Frag → Bool}
    (h1 : ∀ os, (Ux.EndAt R M w os).map (fun s => He.obsD fa fn (He.frT (HandSHeadRun.getT s) as)) = some (He.valD fn))
    (h2 : ∀ os, (Ux.EndAt R M w os).map (fun s => (exP ex pn (He.frT (HandSHeadRun.getT s) as), fnP pn (He.frT (HandSHeadRun.getT s) as))) = some (true, pn.map He5.DefA.val)) :
    ∀ os, (Ux.EndAt R M w os).map (fun s => obsL as fa fn pn ex (HandSHeadRun.getT s)) = some (valP fn pn w) := by
  intro os
  have e1 := h1 os
  have e2 := h2 os
  revert e1 e2
  cases Ux.EndAt R M w os with
  | none => intro e1 _; exact nomatch e1
  | some s =>
    intro e1 e2
    have f1 : He.obsD fa fn (He.frT (HandSHeadRun.getT s) as) = He.valD fn := Option.some.inj e1
    have f2 : (exP ex pn (He.frT (HandSHeadRun.getT s) as), fnP pn (He.frT (HandSHeadRun.getT s) as)) = (true, pn.map He5.DefA.val) := Option.some.inj e2
    refine congrArg some ?_
    have g1 : exP ex pn (He.frT (HandSHeadRun.getT s) as) = true := congrArg Prod.fst f2
    have g2 : fnP pn (He.frT (HandSHeadRun.getT s) as) = pn.map He5.DefA.val := congrArg Prod.snd f2
    show (((He.obsD fa fn (He.frT (HandSHeadRun.getT s) as), ([] : List _)), exP ex pn (He.frT (HandSHeadRun.getT s) as)), fnP pn (He.frT (HandSHeadRun.getT s) as)) = _
    rw [f1, g1, g2]
    rfl
end Vk

namespace Ub
open PySem PySem.Spec PyProof.Rows L2
open Builtin Builtin.Str PySem.StrLaws
/-! ### the law's own way to a word -/
def noCol (c : Nat) : Bool := !(c == 58)
theorem col_cs : cs (":" : Str) = [58] := by decide +kernel
theorem col_len : ((":" : Str)).length = 1 := by decide +kernel
theorem sub_col (z : Str) (i : Nat) : subAt z ":" i = true ↔ ((cs z).drop i).take 1 = [58] := by
  rw [subAt_eq]
  show (((cs z).drop i).take ((":" : Str)).length == cs (":" : Str)) = true ↔ _
  rw [col_len, col_cs]
  exact beq_iff_eq
theorem takeWhile_at : ∀ (l : List Nat) (i : Nat), (∀ j, j < i → ((l.drop j).take 1) ≠ [58]) → (((l.drop i).take 1) = [58] ∨ l.length ≤ i) → l.takeWhile noCol = l.take i
  | [], i, _, _ => by simp
  | c :: l, 0, _, h => by
    rcases h with h | h
    · have e : c = 58 := by simpa using h
      rw [e]
      rfl
    · simp at h
  | c :: l, i + 1, hj, h => by
    have hc : noCol c = true := by
      have := hj 0 (Nat.succ_pos _)
      unfold noCol
      cases hb : c == 58 with
      | false => rfl
      | true =>
        have e : c = 58 := by simpa using hb
        rw [e] at this
        exact absurd rfl this
    rw [List.takeWhile_cons, hc, List.take_succ_cons]
    show c :: l.takeWhile noCol = _
    rw [takeWhile_at l i (fun j h => hj (j + 1) (by omega)) (h.imp (fun z => z) (fun z => by simp at z; omega))]
theorem part_colon (x : Str) : cs (Txt.partition x ":").1 = (cs x).takeWhile noCol := by
  unfold Txt.partition
  rw [occ1]
  have key : ∀ j, (decide (j + ((":" : Str)).length ≤ x.length) && subAt x ":" j) = true ↔ ((cs x).drop j).take 1 = [58] := fun j => by
    rw [Bool.and_eq_true, decide_eq_true_eq, sub_col, col_len]
    constructor
    · exact fun h => h.2
    · intro h
      refine ⟨?_, h⟩
      have := congrArg List.length h
      rw [List.length_take, List.length_drop, cs_len] at this
      have e : ([58] : List Nat).length = 1 := rfl
      omega
  rcases find_range' (fun i => decide (i + ((":" : Str)).length ≤ x.length) && subAt x ":" i) (x.length + 1 - 0) 0 with ⟨i, h1, h2, h3, h4, h5⟩ | ⟨h1, h2⟩
  · rw [h5]
    show cs (strSub x 0 i) = _
    rw [takeWhile_at (cs x) i (fun j hj hq => by
      have := h4 j (Nat.zero_le _) hj
      rw [(key j).mpr hq] at this
      cases this) (.inl ((key i).mp h3))]
    simp [strSub, cs]
  · rw [h2]
    show cs x = _
    rw [takeWhile_at (cs x) x.length (fun j hj hq => by
      have := h1 j (Nat.zero_le _) (by omega)
      rw [(key j).mpr hq] at this
      cases this) (.inr (by rw [cs_len]; exact Nat.le_refl _)), List.take_of_length_le (by rw [cs_len]; exact Nat.le_refl _)]
/-- the word that the law cuts -/
def lawW (s : List Nat) : List Nat := (s.take 9).takeWhile noCol
theorem lawW_len (s : List Nat) : (lawW s).length ≤ 9 := by
  have h := (List.takeWhile_prefix (l := s.take 9) noCol).length_le
  rw [List.length_take] at h
  exact Nat.le_trans h (by omega)
theorem lawW_pre (s : List Nat) : s.take (lawW s).length = lawW s := by
  obtain ⟨r, h⟩ := List.takeWhile_prefix (l := s.take 9) noCol
  have h : lawW s ++ r = s.take 9 := h
  have hl := lawW_len s
  have e : s.take (lawW s).length = (s.take 9).take (lawW s).length := by rw [List.take_take, Nat.min_eq_left hl]
  rw [e, ← h, List.take_left']
  rfl
theorem isWord_let {z : Str} (h : isWord z = true) : ∀ c ∈ cs z, isLet c = true := by
  unfold isWord at h
  simp only [Bool.and_eq_true] at h
  exact List.all_eq_true.mp h.2.2.1
theorem noCol_let {c : Nat} (h : isLet c = true) : noCol c = true := by
  unfold noCol
  cases hb : c == 58 with
  | false => rfl
  | true =>
    have e : c = 58 := by simpa using hb
    rw [e, let_colon] at h
    cases h
theorem scanW_law (s : List Nat) : scanW s = if isWord ⟨(lawW s).toArray⟩ = true ∧ (s.drop (lawW s).length).take 2 = [58, 32] then some ⟨(lawW s).toArray⟩ else none := by
  by_cases h : isWord ⟨(lawW s).toArray⟩ = true ∧ (s.drop (lawW s).length).take 2 = [58, 32]
  · rw [if_pos h]
    have hl := isWord_let h.1
    have e : s.takeWhile isLet = s.take (lawW s).length := by
      refine takeWhile_split s _ (fun c hc => hl c ?_) ?_
      · rw [cs_of]
        rwa [lawW_pre] at hc
      · cases hd : s.drop (lawW s).length with
        | nil => rw [hd] at h; exact nomatch h.2
        | cons c r =>
          rw [hd] at h
          have e0 : c = 58 := (List.cons.inj h.2).1
          exact ⟨r, by rw [e0]⟩
    rw [lawW_pre] at e
    unfold scanW
    rw [e, if_pos h]
  · rw [if_neg h]
    cases hs : scanW s with
    | none => rfl
    | some w =>
      exfalso
      unfold scanW at hs
      split at hs
      · rename_i g
        have lw := (isWord_len g.1).2
        have lw : (s.takeWhile isLet).length ≤ 8 := by simpa [Str.length] using lw
        obtain ⟨r, hr⟩ := List.takeWhile_prefix (l := s) isLet
        have hr0 : s.drop (s.takeWhile isLet).length = r := by
          conv => lhs; arg 2; rw [← hr]
          rw [List.drop_left']
          rfl
        rw [hr0] at g
        have e : lawW s = s.takeWhile isLet := by
          unfold lawW
          have h9 : s.take 9 = s.takeWhile isLet ++ r.take (9 - (s.takeWhile isLet).length) := by
            conv => lhs; rw [← hr]
            rw [List.take_append, List.take_of_length_le (by omega)]
          rw [h9, List.takeWhile_append_of_pos (fun c hc => noCol_let (isWord_let g.1 c (by rw [cs_of]; exact hc)))]
          cases r with
          | nil => exact nomatch g.2
          | cons c r =>
            have e0 : c = 58 := (List.cons.inj g.2).1
            rw [e0]
            have : 9 - (s.takeWhile isLet).length = (8 - (s.takeWhile isLet).length) + 1 := by omega
            rw [this, List.take_succ_cons, List.takeWhile_cons]
            simp [noCol]
        rw [e] at h
        exact h ⟨g.1, by rw [hr0]; exact g.2⟩
      · cases hs
def LScanOut (H' : Hp) (z : Str) (o : Option (Tr × List Nat)) (p : Addr) : Prop := match o with
  | none => H' p = some (.tup [.non, .int 0])
  | some (t, r) => ∃ q, TrAt H' t q ∧ H' p = some (.tup [q, .int ((z.length - r.length : Nat) : Int)])
def sp_lscan (d : Nat) : Sp := fun vs H Q _ => ∃ (z : Str) (a f : Nat), vs = [.str z, .int a, .int f] ∧ z.length ≤ 100000 ∧ a ≤ z.length ∧ f < d ∧ f ≤ 3 ∧ ∀ H' p, Same H H' → LScanOut H' z (scanS f ((cs z).drop a)) p → Q (.ref p) H'
theorem no_lscan {P : Program} {w : World} {K : PySem.W.Frag} {mg : Str → Option Value} {base : Heap} {f : Addr} {fd : FuncData} {x y z : Str} : FnOk P w K mg base CX0 0 f fd [x, y, z] (sp_lscan 0) :=
  ⟨fun vs H Q E h => by obtain ⟨_, _, _, rfl, _⟩ := h; rfl, fun A outer s H args us vs Q E _ _ _ _ h => by
    obtain ⟨_, _, _, _, _, _, h, _⟩ := h
    exact absurd h (Nat.not_lt_zero _)⟩
end Ub

namespace Up
open PySem PySem.Spec PyProof.Rows L2 Ub Ur Ug Ue
def sp_is_shape : Sp := fun vs H Q _ => ∃ z : Str, vs = [.str z] ∧ z.length ≤ 100000 ∧ ∀ H', Same H H' → Q (.bl (shapeOf z).isSome) H'
/-! ### texts of small signs -/
def Asc (z : Str) : Prop := ∀ c ∈ cs z, c < 128
theorem asc_app {a b : Str} (h : Asc a) (k : Asc b) : Asc (a ++ b) := fun c hc => by
  rw [cs_app] at hc
  rcases List.mem_append.mp hc with z | z
  · exact h c z
  · exact k c z
theorem asc_cut {z : Str} {lo hi : Option Int} (h : Asc z) : Asc (cutS z lo hi) := fun c hc => by
  unfold cutS at hc
  exact h c (List.mem_of_mem_drop (List.mem_of_mem_take (by simpa using hc)))
theorem let_small : ∀ c ∈ letters.cps.toList, c < 128 := by decide +kernel
theorem low_asc {z : Str} (h : Low z) : Asc z := fun c hc => let_small c (of_decide_eq_true (h c hc))
theorem word_asc {z : Str} (h : isWord z = true) : Asc z := low_asc (isWord_iff.mp h).2.2.1
def ascB (z : Str) : Bool := (cs z).all fun c => decide (c < 128)
theorem asc_of {z : Str} (h : ascB z = true) : Asc z := fun c hc => of_decide_eq_true (List.all_eq_true.mp h c hc)
def Tr.lows : Tr → Prop
  | .nil => True
  | .cons w t r => isWord w = true ∧ Tr.lows t ∧ Tr.lows r
theorem fineF_lows {p : Tr → Prop} (h : ∀ t, p t → Tr.lows t) : ∀ {n : Nat} {kn : List Str} {t : Tr}, FineF p n kn t → Tr.lows t
  | 0, _, _, hf => hf.elim
  | _ + 1, _, .nil, hf => hf.elim
  | n + 1, kn, .cons w t r, ⟨h1, _, h3, h4⟩ => ⟨h1, h t h3, by
    rcases h4 with rfl | h4
    · trivial
    · exact fineF_lows h h4⟩
theorem fine_lows : ∀ {f : Nat} {t : Tr}, Fine f t → Tr.lows t
  | 0, t, h => by
    have h : t = .nil := h
    rw [h]
    trivial
  | f + 1, t, h => by
    rcases h with h | h
    · rw [h]; trivial
    · exact fineF_lows (fun _ y => fine_lows y) h
theorem fcs_small : ∀ {t : Tr}, Tr.lows t → (∀ c ∈ fcs t, c < 128) ∧ ∀ c ∈ tcs t, c < 128
  | .nil, _ => ⟨(fun c hc => nomatch hc), fun c hc => by
    have e : c = 46 := by simpa [tcs, Tr.isNil] using hc
    rw [e]; decide⟩
  | .cons w t r, ⟨h1, h2, h3⟩ => by
    obtain ⟨_, a2⟩ := fcs_small h2
    obtain ⟨b1, _⟩ := fcs_small h3
    have hw := word_asc h1
    have k : ∀ c ∈ fcs (.cons w t r), c < 128 := fun c hc => by
      rw [fcs_cons, List.mem_append, List.mem_cons, List.mem_cons, List.mem_append] at hc
      rcases hc with hc | hc | hc | hc | hc
      · exact hw c hc
      · omega
      · omega
      · exact a2 c hc
      · by_cases hr : r.isNil = true
        · rw [if_pos hr] at hc
          exact nomatch hc
        · rw [if_neg hr, List.mem_cons, List.mem_cons] at hc
          rcases hc with hc | hc | hc
          · omega
          · omega
          · exact b1 c hc
    refine ⟨k, fun c hc => ?_⟩
    have e : tcs (.cons w t r) = 123 :: (fcs (.cons w t r) ++ [125]) := rfl
    rw [e, List.mem_cons, List.mem_append] at hc
    rcases hc with hc | hc | hc
    · omega
    · exact k c hc
    · have : c = 125 := by simpa using hc
      omega
theorem text_asc {f : Nat} {t : Tr} (h : Fine f t) : Asc t.text := fun c hc => by
  rw [cs_text] at hc
  exact (fcs_small (fine_lows h)).2 c hc
/-! ### lengths of slices -/
theorem cut_le (z : Str) {a : Nat} : (cutS z none (some (a : Int))).length ≤ a := by
  unfold cutS
  show ((z.cps.toList.drop _).take _).toArray.size ≤ a
  rw [List.size_toArray, List.length_take, HT.sIx_nat]
  omega
theorem cut_ge (z : Str) {a : Nat} (h : a ≤ z.length) : (cutS z (some (a : Int)) none).length ≤ z.length - a := by
  unfold cutS
  show ((z.cps.toList.drop _).take _).toArray.size ≤ _
  rw [List.size_toArray, List.length_take, List.length_drop, HT.sIx_nat, len_toList]
  omega
theorem cut_ge' (z : Str) {a : Nat} : (cutS z (some (a : Int)) none).length ≤ z.length - a := by
  unfold cutS
  show ((z.cps.toList.drop _).take _).toArray.size ≤ _
  rw [List.size_toArray, List.length_take, List.length_drop, HT.sIx_nat, len_toList]
  omega
theorem rp_str {z : Str} (h : Asc z) (hl : z.length ≤ 6200) : rpOk (.str z) = true := by
  have hz := PySem.StrLaws.reprText_len z (fun c hc => Nat.lt_trans (h c hc) (by decide))
  unfold rpOk
  have : (PyData.str z).shown = reprText z := rfl
  simp [PyData.showable, PyData.hasDict, PyData.depth, this]
  omega
theorem fold_mem {c : Nat} : ∀ (l : List (Array Nat)) (acc : Array Nat), c ∈ (l.foldl (· ++ ·) acc).toList → c ∈ acc.toList ∨ ∃ a ∈ l, c ∈ a.toList
  | [], acc, h => .inl h
  | a :: l, acc, h => by
    rcases fold_mem l (acc ++ a) h with h | ⟨b, hb, hc⟩
    · rw [Array.toList_append, List.mem_append] at h
      exact h.imp (fun z => z) fun z => ⟨a, List.mem_cons_self, z⟩
    · exact .inr ⟨b, List.mem_cons_of_mem _ hb, hc⟩
theorem asc_mul {z : Str} {n : Int} (h : Asc z) : Asc (Txt.mul z n) := fun c hc => by
  unfold Txt.mul at hc
  split at hc
  · exact nomatch hc
  · split at hc
    · exact h c hc
    · rcases fold_mem _ _ hc with z | ⟨a, ha, hz⟩
      · exact nomatch z
      · have := List.eq_of_mem_replicate ha
        rw [this] at hz
        exact h c hz
theorem szA {i j : Str} (h : i.length ≤ 10000) (k : j.length ≤ 10000) : i.length + j.length ≤ sizeLine := sz5 (by omega)
theorem same_mut {H H' : Hp} {p : Addr} {o : HO} (s : Same H H') (h : H p = none) : Same H (upd H' p o) := fun b x e => by
  rw [upd_ne (ne_of_none e h)]
  exact s b x e
/-- a short text of small signs -/
def Okt (v : V) : Prop := ∃ z : Str, v = .str z ∧ z.length ≤ 6200 ∧ Asc z
theorem okt {z : Str} (h : ascB z = true) (hl : decide (z.length ≤ 6200) = true) : Okt (.str z) := ⟨z, rfl, of_decide_eq_true hl, asc_of h⟩
theorem okt_app {a b : Str} (h1 : a.length + b.length ≤ 6200) (h : Asc a) (k : Asc b) : Okt (.str (a ++ b)) := ⟨_, rfl, by rw [len_app]; exact h1, asc_app h k⟩
/-- a list of such texts that is one's own -/
structure Bag (H0 H : Hp) (p : Addr) (n : Nat) : Prop where
  same : Same H0 H
  new : H0 p = none
  ex : ∃ xs : List V, H p = some (.lst xs) ∧ xs.length = n ∧ ∀ v ∈ xs, Okt v
theorem Bag.app {H0 H : Hp} {p : Addr} {n : Nat} {xs zs : List V} (B : Bag H0 H p n) (h : H p = some (.lst xs)) (hz : ∀ v ∈ zs, Okt v) : Bag H0 (upd H p (.lst (xs ++ zs))) p (n + zs.length) := by
  obtain ⟨s, nw, ys, e, l, o⟩ := B
  rw [h] at e
  cases e
  refine ⟨same_mut s nw, nw, _, upd_same, by rw [List.length_append, l], fun v hv => ?_⟩
  rcases List.mem_append.mp hv with hv | hv
  · exact o v hv
  · exact hz v hv
theorem Bag.go {H0 H H' : Hp} {p : Addr} {n : Nat} (B : Bag H0 H p n) (s : Same H H') : Bag H0 H' p n := by
  obtain ⟨s0, nw, ys, e, l, o⟩ := B
  exact ⟨s0.trans s, nw, ys, s _ _ e, l, o⟩
theorem Bag.back {H0 H : Hp} {p b : Addr} {n : Nat} (B : Bag H0 H p n) (h : H b = none) : p ≠ b := by
  obtain ⟨s0, nw, ys, e, l, o⟩ := B
  exact ne_of_none e h
theorem okt1 {v : V} (h : Okt v) : ∀ x ∈ [v], Okt x := fun x hx => by
  have : x = v := by simpa using hx
  rw [this]; exact h
def sp_bent : Sp := fun vs H Q _ => ∃ (st g l : Addr) (z : Str), vs = [.ref st, .str z] ∧ z.length ≤ 1000 ∧ Asc z ∧ StAt H st g l ∧ ∀ (z' : Str) H', z'.length ≤ 6200 → Asc z' → StAt H' st g l → Kp st g l H H' → Q (.str z') H'
def sp_beyond : Sp := fun vs H Q _ => ∃ (st g l : Addr), vs = [.ref st] ∧ StAt H st g l ∧ ∀ (z' : Str) H', z'.length ≤ 6200 → Asc z' → StAt H' st g l → Kp st g l H H' → Q (.str z') H'
end Up

namespace Ve
open PySem PySem.Spec PyProof.Rows L2 Ub Ur Ug Ue Up
/-! ### paths of a tree -/
def down (w p : Str) : Str := ("." : Str) ++ w ++ (if p = "." then ("" : Str) else p)
def fp : Tr → List (Str × Tr)
  | .nil => []
  | .cons w t r => ((("." : Str), t) :: fp t).map (fun m => (down w m.1, m.2)) ++ fp r
def paths (t : Tr) : List (Str × Tr) := (("." : Str), t) :: fp t
def gp : Sg → List (Str × Addr × Sg)
  | .nil => []
  | .cons w p s r => ((("." : Str), p, s) :: gp s).map (fun m => (down w m.1, m.2)) ++ gp r
def gpaths (x : Addr) (g : Sg) : List (Str × Addr × Sg) := (("." : Str), x, g) :: gp g
theorem gp_tr : ∀ g : Sg, (gp g).map (fun m => (m.1, m.2.2.tr)) = fp g.tr
  | .nil => rfl
  | .cons w p s r => by
    show (((("." : Str), p, s) :: gp s).map (fun m => (down w m.1, m.2)) ++ gp r).map _ = ((("." : Str), s.tr) :: fp s.tr).map _ ++ fp r.tr
    rw [List.map_append, gp_tr r, ← gp_tr s, List.map_cons, List.map_cons, List.map_cons, List.map_map, List.map_map]
    rfl
theorem gpaths_tr (x : Addr) (g : Sg) : (gpaths x g).map (fun m => (m.1, m.2.2.tr)) = paths g.tr := by
  show _ :: (gp g).map _ = _
  rw [gp_tr]
  rfl
theorem mul01 (p : Str) : Txt.mul p (if p = "." then 0 else 1) = (if p = "." then ("" : Str) else p) := by
  by_cases h : p = "."
  · rw [if_pos h, if_pos h, h]
    decide +kernel
  · rw [if_neg h, if_neg h]
    unfold Txt.mul
    simp
theorem ext_down (w p : Str) : Sg.ext w (.inr p) = .inr (down w p) := by
  show Sum.inr (("." : Str) ++ w ++ Txt.mul p (if p = "." then 0 else 1)) = _
  rw [mul01]
  rfl

theorem cs_down (w p : Str) : cs (down w p) = 46 :: (cs w ++ (if p = "." then [] else cs p)) := by
  unfold down
  rw [cs_app, cs_app, cs_dot]
  by_cases h : p = "."
  · rw [if_pos h, if_pos h]
    show [46] ++ cs w ++ [] = _
    simp
  · rw [if_neg h, if_neg h]
    simp
/-- a path begins with a dot -/
def Dot (p : Str) : Prop := ∃ r, cs p = 46 :: r
theorem dot_down (w p : Str) : Dot (down w p) := ⟨_, cs_down w p⟩
theorem dot_dot : Dot "." := ⟨[], cs_dot⟩
theorem fp_dot : ∀ t : Tr, ∀ m ∈ fp t, Dot m.1
  | .nil, m, h => nomatch h
  | .cons w t r, m, h => by
    rcases List.mem_append.mp h with h | h
    · obtain ⟨m', _, rfl⟩ := List.mem_map.mp h
      exact dot_down _ _
    · exact fp_dot r m h
theorem let_dot : isLet 46 = false := by decide +kernel
theorem tw_split {l r : List Nat} (h : ∀ c ∈ l, isLet c = true) (hr : r = [] ∨ ∃ q, r = 46 :: q) : (l ++ r).takeWhile isLet = l ∧ (l ++ r).drop l.length = r := by
  refine ⟨?_, by simp⟩
  induction l with
  | nil =>
    rcases hr with rfl | ⟨q, rfl⟩
    · rfl
    · show (46 :: q).takeWhile isLet = []
      rw [List.takeWhile_cons, let_dot]
      rfl
  | cons a l ih =>
    show ((a :: (l ++ r)).takeWhile isLet) = _
    rw [List.takeWhile_cons, h a (List.mem_cons_self ..), if_pos rfl, ih fun c hc => h c (List.mem_cons_of_mem _ hc)]
theorem down_inj {w w' p p' : Str} (hw : isWord w = true) (hw' : isWord w' = true) (hp : Dot p) (hp' : Dot p') (h : down w p = down w' p') : w = w' ∧ p = p' := by
  have e : cs (down w p) = cs (down w' p') := by rw [h]
  rw [cs_down, cs_down] at e
  injection e with _ e
  have tl : ∀ {p : Str}, Dot p → (if p = "." then [] else cs p) = [] ∨ ∃ q, (if p = "." then [] else cs p) = 46 :: q := fun {p} hp => by
    by_cases c : p = "."
    · rw [if_pos c]; exact .inl rfl
    · rw [if_neg c]; exact .inr hp
  obtain ⟨a1, a2⟩ := tw_split (isWord_low hw) (tl hp)
  obtain ⟨b1, b2⟩ := tw_split (isWord_low hw') (tl hp')
  have ew : cs w = cs w' := by rw [← a1, e, b1]
  refine ⟨cs_inj ew, ?_⟩
  have er : (if p = "." then [] else cs p) = (if p' = "." then [] else cs p') := by rw [← a2, e, ew, b2]
  by_cases c : p = "."
  · by_cases c' : p' = "."
    · rw [c, c']
    · rw [if_pos c, if_neg c'] at er
      obtain ⟨r, hr⟩ := hp'
      rw [hr] at er
      cases er
  · by_cases c' : p' = "."
    · rw [if_neg c, if_pos c'] at er
      obtain ⟨r, hr⟩ := hp
      rw [hr] at er
      cases er
    · rw [if_neg c, if_neg c'] at er
      exact cs_inj er
theorem down_ne {w p : Str} (hw : isWord w = true) : down w p ≠ "." := fun h => by
  have e : cs (down w p) = cs (".": Str) := by rw [h]
  rw [cs_down, cs_dot] at e
  injection e with _ e
  have : cs w = [] := (List.append_eq_nil_iff.mp e).1
  have l : w.length = 0 := by rw [← cs_len, this]; rfl
  have := (isWord_iff.mp hw).1
  omega
/-! ### words of a tree -/
def W : Tr → Prop
  | .nil => True
  | .cons w t r => isWord w = true ∧ w ∉ r.fields.map (·.1) ∧ W t ∧ W r
theorem fineF_W {p : Tr → Prop} (hp : ∀ t, p t → W t) : ∀ {n : Nat} {kn : List Str} {t : Tr}, FineF p n kn t → W t
  | 0, _, _, hf => hf.elim
  | _ + 1, _, .nil, hf => hf.elim
  | n + 1, kn, .cons w t r, hf => by
    have hn := (fineF_fields hf).2
    obtain ⟨h1, h2, h3, h4⟩ := hf
    refine ⟨h1, ?_, hp t h3, ?_⟩
    · have e : (Tr.cons w t r).fields.map (·.1) = w :: r.fields.map (·.1) := rfl
      rw [e, List.nodup_cons] at hn
      exact hn.1
    · rcases h4 with rfl | h4
      · trivial
      · exact fineF_W hp h4
theorem fine_W : ∀ {f : Nat} {t : Tr}, Fine f t → W t
  | 0, t, h => by
    have e : t = .nil := h
    rw [e]
    trivial
  | f + 1, t, h => by
    rcases h with e | h
    · rw [e]; trivial
    · exact fineF_W (fun _ => fine_W) h
theorem good_W {t : Tr} (h : good t) : W t := fine_W h.1
/-- every path of the fields begins with one of their words -/
theorem fp_head : ∀ {t : Tr}, ∀ m ∈ fp t, ∃ w ∈ t.fields.map (·.1), ∃ p, Dot p ∧ m.1 = down w p
  | .nil, m, h => nomatch h
  | .cons w t r, m, h => by
    rcases List.mem_append.mp h with h | h
    · obtain ⟨m', hm, rfl⟩ := List.mem_map.mp h
      refine ⟨w, List.mem_cons_self .., m'.1, ?_, rfl⟩
      rcases List.mem_cons.mp hm with e | hm
      · rw [e]; exact dot_dot
      · exact fp_dot t _ hm
    · obtain ⟨w', hw, p, hp, e⟩ := fp_head m h
      exact ⟨w', List.mem_cons_of_mem _ hw, p, hp, e⟩
theorem W.word : ∀ {t : Tr}, W t → ∀ w ∈ t.fields.map (·.1), isWord w = true
  | .nil, _, w, h => nomatch h
  | .cons w0 t r, ⟨a, _, _, d⟩, w, h => by
    rcases List.mem_cons.mp h with e | h
    · rw [e]; exact a
    · exact W.word d w h
theorem dot_fresh {t : Tr} (h : W t) : ("." : Str) ∉ (fp t).map (·.1) := fun z => by
  obtain ⟨m, hm, e⟩ := List.mem_map.mp z
  obtain ⟨w, hw, p, _, e2⟩ := fp_head m hm
  exact down_ne (h.word w hw) (e2.symm.trans e)
theorem nodup_down {w : Str} (hw : isWord w = true) : ∀ {l : List Str}, (∀ p ∈ l, Dot p) → l.Nodup → (l.map (down w)).Nodup
  | [], _, _ => List.nodup_nil
  | p :: l, hd, hn => by
    obtain ⟨h1, h2⟩ := List.nodup_cons.mp hn
    refine List.nodup_cons.mpr ⟨fun z => ?_, nodup_down hw (fun q hq => hd q (List.mem_cons_of_mem _ hq)) h2⟩
    obtain ⟨q, hq, e⟩ := List.mem_map.mp z
    obtain ⟨_, e⟩ := down_inj hw hw (hd q (List.mem_cons_of_mem _ hq)) (hd p (List.mem_cons_self ..)) e
    rw [← e] at h1
    exact h1 hq
theorem fp_nodup : ∀ {t : Tr}, W t → ((fp t).map (·.1)).Nodup
  | .nil, _ => List.nodup_nil
  | .cons w t r, ⟨a, b, c, d⟩ => by
    have e : (fp (.cons w t r)).map (·.1) = ((("." : Str) :: (fp t).map (·.1)).map (down w)) ++ (fp r).map (·.1) := by
      show (((("." : Str), t) :: fp t).map (fun m => (down w m.1, m.2)) ++ fp r).map (·.1) = _
      rw [List.map_append, List.map_map, List.map_cons, List.map_cons, List.map_map]
      rfl
    rw [e]
    have dt : ∀ p ∈ ("." : Str) :: (fp t).map (·.1), Dot p := fun p hp => by
      rcases List.mem_cons.mp hp with e | hp
      · rw [e]; exact dot_dot
      · obtain ⟨m, hm, rfl⟩ := List.mem_map.mp hp
        exact fp_dot t m hm
    refine List.nodup_append.mpr ⟨nodup_down a dt (List.nodup_cons.mpr ⟨dot_fresh c, fp_nodup c⟩), fp_nodup d, fun p hp q hq e2 => ?_⟩
    obtain ⟨p', hp', rfl⟩ := List.mem_map.mp hp
    obtain ⟨m, hm, rfl⟩ := List.mem_map.mp hq
    obtain ⟨w', hw', q', hq', e3⟩ := fp_head m hm
    obtain ⟨e4, _⟩ := down_inj a (d.word w' hw') (dt p' hp') hq' (e2.trans e3)
    rw [e4] at b
    exact b hw'
theorem paths_nodup {t : Tr} (h : W t) : ((paths t).map (·.1)).Nodup := List.nodup_cons.mpr ⟨dot_fresh h, fp_nodup h⟩
/-! ### the spots -/
def ent (m : Str × Addr × Sg) : Key × V := (.inr m.1, .ref m.2.1)
theorem put_fresh {kvs : List (Key × V)} {k : Key} {v : V} (h : k ∉ kvs.map (·.1)) : putK kvs k v = kvs ++ [(k, v)] := by
  unfold putK
  rw [if_neg]
  intro z
  obtain ⟨kv, h1, h2⟩ := List.any_eq_true.mp z
  exact h (List.mem_map.mpr ⟨kv, h1, of_decide_eq_true h2⟩)
theorem fold_fresh {w : Str} : ∀ {l : List (Str × Addr × Sg)} {acc : List (Key × V)}, (acc.map (·.1) ++ l.map fun m => (Sum.inr (down w m.1) : Key)).Nodup →
    (l.map ent).foldl (fun a kv => putK a (Sg.ext w kv.1) kv.2) acc = acc ++ (l.map fun m => (down w m.1, m.2)).map ent
  | [], acc, _ => by simp
  | m :: l, acc, h => by
    have h' : (acc.map (·.1) ++ ((Sum.inr (down w m.1) : Key) :: l.map fun m => (Sum.inr (down w m.1) : Key))).Nodup := h
    have hf : (Sum.inr (down w m.1) : Key) ∉ acc.map (·.1) := fun z => (List.nodup_append.mp h').2.2 _ z _ (List.mem_cons_self ..) rfl
    show (l.map ent).foldl _ (putK acc (Sg.ext w (.inr m.1)) (.ref m.2.1)) = _
    rw [ext_down, put_fresh hf, fold_fresh (w := w) (l := l) (acc := acc ++ [(Sum.inr (down w m.1), V.ref m.2.1)])]
    · simp [ent]
    · rw [List.map_append, List.append_assoc]
      exact h'
theorem inr_nodup : ∀ {l : List Str}, l.Nodup → (l.map fun p => (Sum.inr p : Key)).Nodup
  | [], _ => List.nodup_nil
  | p :: l, h => by
    obtain ⟨a, b⟩ := List.nodup_cons.mp h
    refine List.nodup_cons.mpr ⟨fun z => ?_, inr_nodup b⟩
    obtain ⟨q, hq, e⟩ := List.mem_map.mp z
    rw [Sum.inr.inj e] at hq
    exact a hq
theorem gp_keys (g : Sg) : (gp g).map (·.1) = (fp g.tr).map (·.1) := by
  rw [← gp_tr, List.map_map]
  rfl
theorem puts_eq : ∀ {g : Sg} {acc : List (Key × V)}, W g.tr → (acc.map (·.1) ++ ((gp g).map fun m => (Sum.inr m.1 : Key))).Nodup → g.puts acc = acc ++ (gp g).map ent
  | .nil, acc, _, _ => by show acc = acc ++ []; simp
  | .cons w p s r, acc, h, hn => by
    obtain ⟨a, b, c, d⟩ := h
    have e1 : gp (.cons w p s r) = (gpaths p s).map (fun m => (down w m.1, m.2)) ++ gp r := rfl
    have hs : s.puts [(.inr ".", .ref p)] = (gpaths p s).map ent := by
      rw [puts_eq (g := s) c]
      · rfl
      · have := inr_nodup (paths_nodup c)
        have e : (paths s.tr).map (·.1) = ("." : Str) :: (gp s).map (·.1) := by rw [gp_keys]; rfl
        rw [e] at this
        have e2 : ((gp s).map fun m => (Sum.inr m.1 : Key)) = ((gp s).map (·.1)).map fun p => (Sum.inr p : Key) := by rw [List.map_map]; rfl
        rw [e2]
        exact this
    show r.puts ((s.puts [(.inr ".", .ref p)]).foldl (fun a kv => putK a (Sg.ext w kv.1) kv.2) acc) = _
    rw [e1, List.map_append, ← List.append_assoc] at hn
    have h1 := (List.nodup_append.mp hn).1
    rw [List.map_map] at h1
    rw [hs, fold_fresh h1, puts_eq d]
    · rw [e1, List.map_append, List.append_assoc]
    · rw [List.map_append]
      have e3 : List.map (·.1) (((gpaths p s).map fun m => (down w m.1, m.2)).map ent) = ((gpaths p s).map fun m => (down w m.1, m.2)).map fun m => (Sum.inr m.1 : Key) := by rw [List.map_map]; rfl
      rw [e3]
      exact hn
theorem spots_eq {g : Sg} (x : Addr) (h : W g.tr) : g.spots x = (gpaths x g).map ent := by
  show g.puts [(.inr ".", .ref x)] = _
  rw [puts_eq h]
  · rfl
  · have := inr_nodup (paths_nodup h)
    have e : (paths g.tr).map (·.1) = ("." : Str) :: (gp g).map (·.1) := by rw [gp_keys]; rfl
    rw [e] at this
    have e2 : ((gp g).map fun m => (Sum.inr m.1 : Key)) = ((gp g).map (·.1)).map fun p => (Sum.inr p : Key) := by rw [List.map_map]; rfl
    rw [e2]
    exact this
theorem gpaths_keys (x : Addr) (g : Sg) : (gpaths x g).map (·.1) = (paths g.tr).map (·.1) := by
  rw [← gpaths_tr x, List.map_map]
  rfl
theorem val_at : ∀ {l : List (Str × Addr × Sg)}, (l.map (·.1)).Nodup → ∀ m ∈ l, valV (l.map ent) (.inr m.1) = some (.ref m.2.1)
  | [], _, m, h => nomatch h
  | m0 :: l, hn, m, h => by
    obtain ⟨a, b⟩ := List.nodup_cons.mp hn
    rcases List.mem_cons.mp h with e | h
    · rw [e]; exact valV_pos rfl
    · rw [List.map_cons, valV_neg, val_at b m h]
      intro z
      exact a (List.mem_map.mpr ⟨m, h, (Sum.inr.inj z).symm⟩)
theorem val_no {p : Str} : ∀ {l : List (Str × Addr × Sg)}, p ∉ l.map (·.1) → valV (l.map ent) (.inr p) = none
  | [], _ => rfl
  | m0 :: l, h => by
    rw [List.map_cons, List.mem_cons, not_or] at h
    rw [List.map_cons, valV_neg (fun z => h.1 (Sum.inr.inj z).symm), val_no h.2]
theorem sh_at {Z : Addr → Prop} {C : Addr} {H : Hp} : ∀ {g : Sg}, ShL Z C H g → ∀ m ∈ gp g, ShG Z C H m.2.1 m.2.2
  | .nil, _, m, h => nomatch h
  | .cons w p s r, ⟨a, b, c⟩, m, h => by
    rcases List.mem_append.mp h with h | h
    · obtain ⟨m', hm, rfl⟩ := List.mem_map.mp h
      rcases List.mem_cons.mp hm with e | hm
      · rw [e]; exact ⟨a, b⟩
      · exact sh_at b m' hm
    · exact sh_at c m h
theorem shg_at {Z : Addr → Prop} {C : Addr} {H : Hp} {x : Addr} {g : Sg} (h : ShG Z C H x g) : ∀ m ∈ gpaths x g, ShG Z C H m.2.1 m.2.2 := fun m hm => by
  rcases List.mem_cons.mp hm with e | hm
  · rw [e]; exact h
  · exact sh_at h.2 m hm
/-! ### what stands at a path is good -/
theorem fp_mem : ∀ {t : Tr}, ∀ m ∈ fp t, ∃ f ∈ t.fields, ∃ m' ∈ paths f.2, m = (down f.1 m'.1, m'.2)
  | .nil, m, h => nomatch h
  | .cons w t r, m, h => by
    rcases List.mem_append.mp h with h | h
    · obtain ⟨m', hm, rfl⟩ := List.mem_map.mp h
      exact ⟨(w, t), List.mem_cons_self .., m', hm, rfl⟩
    · obtain ⟨f, hf, m', hm, e⟩ := fp_mem m h
      exact ⟨f, List.mem_cons_of_mem _ hf, m', hm, e⟩
structure PGood (d : Nat) (m : Str × Tr) : Prop where
  g : good m.2
  dp : m.2.depth ≤ d
  l : m.1.length ≤ 9 * d + 1
  a : Asc m.1
theorem paths_good : ∀ (n : Nat) {t : Tr}, t.depth ≤ n → good t → ∀ m ∈ paths t, PGood n m := by
  intro n
  have base : ∀ {t : Tr} {n : Nat}, t.depth ≤ n → good t → PGood n (("." : Str), t) := fun hd hg => ⟨hg, hd, by show (("." : Str)).length ≤ _; rw [dot_len]; omega, (show Asc ("." : Str) from asc_of (by decide +kernel))⟩
  induction n with
  | zero =>
    intro t hd hg m hm
    rcases List.mem_cons.mp hm with e | hm
    · rw [e]; exact base hd hg
    · obtain ⟨f, hf, _⟩ := fp_mem m hm
      have := Tr.depth_lt hf
      omega
  | succ n ih =>
    intro t hd hg m hm
    rcases List.mem_cons.mp hm with e | hm
    · rw [e]; exact base hd hg
    · obtain ⟨f, hf, m', hm', rfl⟩ := fp_mem m hm
      have hl := Tr.depth_lt hf
      obtain ⟨gf, gw⟩ := (good_fields hg).1 f hf
      obtain ⟨a, b, c, d⟩ := ih (t := f.2) (by omega) gf m' hm'
      have l8 := (isWord_iff.mp gw).2.1
      refine ⟨a, (show m'.2.depth ≤ n + 1 by omega), ?_, ?_⟩
      · show (down f.1 m'.1).length ≤ _
        unfold down
        rw [len_app, len_app, dot_len]
        split
        · show 1 + f.1.length + 0 ≤ _
          omega
        · omega
      · show Asc (down f.1 m'.1)
        unfold down
        refine asc_app (asc_app (asc_of (by decide +kernel)) (word_asc gw)) ?_
        split
        · exact asc_of (by decide +kernel)
        · exact d
end Ve

namespace Va
open PySem PySem.Spec PyProof.Rows L2 GenW Ub Ur Ug Ue Up
/-! ### a generator that hands out the keys of a dict -/
def pr (L I d : Addr) (n : Nat) (F : Nat → Value → Prop) : Protocol := fun m s₀ v s kap =>
  (∃ i, i + m + 1 = n ∧ F i v) ∧ GenSince L [I] s₀ s ∧ (∀ s'' : Shared, (∀ b, b = L ∨ b = I ∨ b = d → ∀ o, s.heap.get? b = some o → s''.heap.get? b = some o) → kap (.send .none) s'')
abbrev fin (L I : Addr) : GenEnd := fun n s₀ r s₁ => ((r = .ok (.ret .none) ∨ r = .ok .next) ∧ (n = 0 ∧ GenSince L [I] s₀ s₁)) ∨ ∃ e, r = .error e ∧ False
abbrev keyAt (kvs : List (Key × Value)) (j : Nat) (v : Value) : Prop := ∃ k y, kvs[j]? = some (k, y) ∧ keyIs k v = true
abbrev yb (x : Str) (p1 p2 p3 : Pos) : List Stmt := [.Expr (.Yield (some (.Name x p1)) p2) p3]
section
variable {prog : Program} {w : World} {A : Around}
theorem seg_fl {x : Str} {px p1 p2 p3 p : Pos} {env : Env} {I d : Addr} {kvs : List (Key × Value)} {ep : Nat} {body : List Stmt} {kk : Result → Sem PySem.Fin} (hh : A.handled = none)
    (hk : env.scope.kind = .function) (hx : env.kindOf x = some .local) (hco : env.scope.isCoroutine = false) (hi : interactive env = false) (hdb : (x == ("__debug__" : Str)) = false)
    (hp : (env.scope.kind == .class || (env.scope.kind == .module && env.locals != env.globals)) = false)
    (hLI : env.locals ≠ I) (hLd : env.locals ≠ d) (hdI : d ≠ I) (hkk : kk (.ok .next) = .pure (.done (.ret .none))) :
    ∀ (k i : Nat) (s₀ s : Shared) (m : Str → Option Value), kvs.length - i = k → i ≤ kvs.length → s.heap.IsKeyIter I d i kvs.length ep → s.heap.DictAt (mixKind prog w) d kvs ep → s.heap.Ns env.locals m → GenSince env.locals [I] s₀ s →
      Seg (model prog w) A (fin env.locals I) (pr env.locals I d kvs.length (keyAt kvs)) k s₀ (.forLoop (.Name x px) (.ref I) (yb x p1 p2 p3) [] env) ((model prog w).den (.forLoop (.Name x px) (.ref I) (yb x p1 p2 p3) [] env))
        [.ret kk none false [] (.func body env) p []] s := by
  intro k
  have hh' : (A.over (.forLoop (.Name x px) (.ref I) (yb x p1 p2 p3) [] env) [.ret kk none false [] (.func body env) p []]).handled = none := hh
  induction k with
  | zero =>
    intro i s₀ s m hk0 hi0 hit hd hn hsince
    have hin : i = kvs.length := by omega
    subst hin
    show Seg _ A _ _ _ s₀ _ ((forTurn (.Name x px) (.ref I) (yb x p1 p2 p3) [] env).onRaise (fun e => do noteFrame e env; theTreesLotGoes e)) _ s
    unfold forTurn
    rw [Sem.onRaise_eq_wrap]
    refine seg_bind_wrap (wpAny_standAt ?_)
    refine seg_bind_wrap (wpAny_onRaise ((Walks.dictKeys hh' I d hdI kvs ep).done s _ _ ⟨hit, hd⟩ fun h' tk hk' => ?_))
    refine seg_again rfl ?_
    refine seg_leaf (.ok .next) ?_
    rw [hkk]
    exact seg_end (.ok (.ret .none)) (.inl ⟨.inl rfl, rfl, hsince.step fun b o _ hb e => hk' b o hb e⟩)
  | succ k ih =>
    intro i s₀ s m hk0 hi0 hit hd hn hsince
    have hlt : i < kvs.length := by omega
    show Seg _ A _ _ _ s₀ _ ((forTurn (.Name x px) (.ref I) (yb x p1 p2 p3) [] env).onRaise (fun e => do noteFrame e env; theTreesLotGoes e)) _ s
    unfold forTurn
    rw [Sem.onRaise_eq_wrap]
    refine seg_bind_wrap (wpAny_standAt ?_)
    refine seg_bind_wrap (wpAny_onRaise ((Walks.dictKeys hh' I d hdI kvs ep).item i s _ _ hlt ⟨hit, hd⟩ fun v h₁ tk₁ hPv hst₁ hk₁ => ?_))
    refine seg_bind_wrap (wpAny_of_eq (rfl : letOwnedTupleGo (.Name x px) (.ref I) v = pure ()) ?_)
    refine seg_bind_wrap (wpAny_assign_Name (wpAny_storeName_local hx (hn.at' fun o e => hk₁ _ o (fun z => hLI (List.mem_singleton.mp z)) e) (fun h₂ hn₂ hs₂ => ?_) hp))
    have up₂ : ∀ b o, b ≠ env.locals → b ∉ [I] → s.heap.get? b = some o → h₂.get? b = some o := fun b o hbC hbw e => hs₂.extBut b o hbC (hk₁ b o hbw e)
    have hit₂ : h₂.IsKeyIter I d (i + 1) kvs.length ep := hst₁.1.at fun o e => hs₂.extBut I o (Ne.symm hLI) e
    have hd₂ : h₂.DictAt (mixKind prog w) d kvs ep := hst₁.2.at' fun o e => hs₂.extBut d o (Ne.symm hLd) e
    have sin₂ : GenSince env.locals [I] s₀ { s with heap := h₂, toks := tk₁ + 1 } := hsince.step fun b o hb hw e => up₂ b o hb hw e
    rw [Sem.bind_eq_wrap', Sem.wrap_wrap]
    refine seg_execs_cons ?_
    refine seg_Expr_Yield rfl rfl rfl ?_ hco hi
    refine wpAny_Name (wpAny_loadName_local (v := v) hk hx hn₂ (by simp) ?_) hdb
    intro kap hkap
    refine ⟨⟨i, by omega, hPv⟩, ?_, fun s'' hal => hkap .none s'' ?_⟩
    · exact sin₂
    · refine seg_execs_nil ?_
      refine seg_again rfl (ih (i + 1) s'' s'' _ (by omega) hlt (hit₂.at fun o e => hal I (.inr (.inl rfl)) o e) (hd₂.at' fun o e => hal d (.inr (.inr rfl)) o e) (hn₂.at' fun o e => hal _ (.inl rfl) o e) (GenSince.refl _ _ _))

theorem seg_keys {K : PySem.W.Frag} {self f x : Str} {px p0 p1 p2 p3 p4 p5 : Pos} {env : Env} {a dx C d : Addr} {mA : Str → Option Value} {kvs : List (Key × Value)} {ep : Nat} {s : Shared} {m : Str → Option Value} (hh : A.handled = none)
    (hk : env.scope.kind = .function) (hx : env.kindOf x = some .local) (hself : env.kindOf self = some .local) (hco : env.scope.isCoroutine = false) (hi : interactive env = false) (hdb : (x == ("__debug__" : Str)) = false) (hds : (self == ("__debug__" : Str)) = false)
    (hp : (env.scope.kind == .class || (env.scope.kind == .module && env.locals != env.globals)) = false)
    (hb : attributeBase (.Name self p0) f env (eval (.Name self p0) env) = eval (.Name self p0) env)
    (hs : ∀ v, foldedSetIterable (.Attribute (.Name self p0) f p4) env v = pure v)
    (kin : K.In s.heap) (O : ObjM s.heap a dx C mA) (c : Cls K C) (n : NoAttr K C f) (hf : mA f = some (.ref d)) (hsys : (d == sysModules) = false) (hd : s.heap.DictAt (mixKind prog w) d kvs ep)
    (hn : s.heap.Ns env.locals m) (hm : m self = some (.ref a)) (hLd : env.locals ≠ d) :
    Seg (model prog w) A (fin env.locals s.heap.objs.size) (pr env.locals s.heap.objs.size d kvs.length (keyAt kvs)) kvs.length s (.func [.For (.Name x px) (.Attribute (.Name self p0) f p4) (yb x p1 p2 p3) [] p5] env)
      ((model prog w).den (.func [.For (.Name x px) (.Attribute (.Name self p0) f p4) (yb x p1 p2 p3) [] p5] env)) [] s := by
  refine seg_func (seg_execs_cons ?_)
  rw [arm_exec_For]
  refine seg_bind_wrap (wpAny_standAt ?_)
  refine seg_bind_wrap (attr_of hb (wpAny_Name (wpAny_loadName_local hk hself hn hm ?_) hds))
  refine get_map (s := s) kin O (c.get f) c.hd n hf rfl ?_
  refine seg_bind_wrap (wpAny_of_eq (hs _) ?_)
  refine seg_bind_wrap (wpAny_standAt ?_)
  refine seg_bind_wrap (wpAny_holding (wpAny_pyIter_dict (knd := mixKind prog w) hsys hd ?_))
  have lL : env.locals < s.heap.objs.size := hn.lt
  have ld : d < s.heap.objs.size := hd.lt_size
  refine seg_call fun p => ?_
  refine seg_fl hh hk hx hco hi hdb hp (Nat.ne_of_lt lL) hLd (Nat.ne_of_lt ld) rfl kvs.length 0 s _ m (Nat.sub_zero _) (Nat.zero_le _) ⟨_, Heap.get?_push_size _ rfl, rfl, rfl⟩ (hd.push _) (hn.push _) ?_
  exact ⟨_, _, rfl, fun b o _ _ e => Heap.get?_push_of_some _ e⟩
end
end Va

namespace Va
open PySem PySem.Spec PyProof.Rows L2 GenW Ub Ur Ug Ue Up
abbrev keysV {α : Type} (kvs : List (Key × α)) : List V := kvs.map fun kv => kV kv.1
/-- between two turns of the comprehension -/
def LI (prog : Program) (w : World) (A : Around) (os0 : OsState) (h1 : Heap) (L ga : Addr) (gn : Nat) (d D C : Addr) (kvs : List (Key × Value)) (n : Nat) (s : Shared) : Prop :=
  ∃ i acc c m gs I, n = kvs.length - i ∧ i ≤ kvs.length ∧ s.os = os0 ∧ AllBare s.gens ∧ (∀ b o, h1.get? b = some o → s.heap.get? b = some o) ∧ s.heap.get? D = some (lstObj acc c) ∧ Vals (keysV (kvs.take i)) acc.toList ∧
    s.heap.Ns C m ∧ s.heap.IsGen ga gn ∧ s.gens[gn]? = some gs ∧ (I ≠ D ∧ I ≠ C ∧ I ≠ ga ∧ h1.objs.size ≤ I) ∧
    gs.Goes (model prog w) A.in1 (fin L I) (pr L I d kvs.length (keyAt kvs)) (kvs.length - i) (.send .none) (s.setGen gn .running)
section
variable {prog : Program} {w : World} {A : Around}
theorem loop_keys {R : Result → Shared → Prop} {y : Str} {p1 p2 pos : Pos} {iter : Expr} {scope : Scope} {ce : Env} {os0 : OsState} {h1 : Heap} {L ga : Addr} {gn : Nat} {d D : Addr} {kvs : List (Key × Value)} (hh : A.handled = none) (hroom : A.depth < recursionLimit)
    (hk : ce.scope.kind = .function) (hy : ce.kindOf y = some .local) (hdb : (y == ("__debug__" : Str)) = false) (hp : (ce.scope.kind == .class || (ce.scope.kind == .module && ce.locals != ce.globals)) = false) (hl1 : h1.NoLimit)
    (bL : h1.objs.size ≤ L) (bg : h1.objs.size ≤ ga) (bD : h1.objs.size ≤ D) (bC : h1.objs.size ≤ ce.locals) (ld : d < h1.objs.size) (nLD : L ≠ D) (nLC : L ≠ ce.locals) (ngD : ga ≠ D) (ngC : ga ≠ ce.locals) (nDC : D ≠ ce.locals) (nLg : L ≠ ga) (hlen : kvs.length ≤ sizeLine)
    (hR : ∀ s' acc c m, s'.os = os0 → AllBare s'.gens → (∀ b o, h1.get? b = some o → s'.heap.get? b = some o) → s'.heap.get? D = some (lstObj acc c) → Vals (keysV kvs) acc.toList → s'.heap.Ns ce.locals m → R (.ok .next) s')
    (n : Nat) (s : Shared) (h : LI prog w A os0 h1 L ga gn d D ce.locals kvs n s) :
    codeAny (model prog w) A (.compLoop (.ListComp (.Name y p1) [⟨.Name y p2, iter, [], 0⟩] scope pos) 0 (.ref ga) (.ref D) ce) R s := by
  refine compLoop_any (LI prog w A os0 h1 L ga gn d D ce.locals kvs) ?_ n h
  clear h s n
  rintro n s ⟨i, acc, c, m, gs, I, rfl, hi, hos, hba, hkp, hD, hv, hC, hg, hgs, ⟨i1, i2, i3, i4⟩, hgo⟩
  have lt1 : ∀ {b : Addr} {o : Obj}, h1.get? b = some o → ∀ {c : Addr}, h1.objs.size ≤ c → b ≠ c := fun {b o} e {c} hc => Nat.ne_of_lt (Nat.lt_of_lt_of_le (Heap.lt_size e) hc)
  by_cases hlt : i < kvs.length
  · obtain ⟨mm, hm⟩ : ∃ mm, kvs.length - i = mm + 1 := ⟨kvs.length - i - 1, by omega⟩
    rw [hm] at hgo
    refine next_genG (F := fun n s₀ s₁ => n = 0 ∧ GenSince L [I] s₀ s₁) (Er := fun _ _ => False) hh (hl1.keeps hkp) hroom hg hgs hgo (fun v s₁ gs' hb hv' => ?_) (fun s₁ hp' h' hk' => absurd hp'.1 (Nat.succ_ne_zero mm)) (fun e s₁ he => he.elim)
    obtain ⟨⟨j, hj, k, yv, hkv, hkey⟩, ⟨h₁, tk₁, rfl, hk₁⟩, hkap⟩ := hv'
    have ej : j = i := by omega
    subst ej
    have keep1 : ∀ b o, b ≠ L → b ≠ I → s.heap.get? b = some o → h₁.get? b = some o := fun b o x1 x2 e => hk₁ b o x1 (fun z => x2 (List.mem_singleton.mp z)) e
    refine wpAny_of_eq (rfl : letOwnedTupleGo (.Name y p2) (.ref ga) v = pure ()) ?_
    refine wpAny_assign_Name (wpAny_storeName_local hy (hC.at' fun o e => keep1 _ o (Ne.symm nLC) (Ne.symm i2) e) (fun h₂ hn₂ hs₂ => ?_) hp)
    refine wpAny_tests_nil ?_
    rw [if_pos rfl]
    refine wpAny_Name (wpAny_loadName_local (v := v) hk hy hn₂ (by simp) ?_) hdb
    have hD₂ : h₂.get? D = some (lstObj acc c) := hs₂.extBut D _ nDC (keep1 _ _ (Ne.symm nLD) (Ne.symm i1) hD)
    have hsz : acc.size ≤ sizeLine := by
      have e1 := hv.length
      have e2 : acc.toList.length = acc.size := by simp
      have e3 : (keysV (kvs.take j)).length = j := by rw [List.length_map, List.length_take]; omega
      omega
    refine append_at (hsz := hsz) hD₂ fun h₃ sb hD₃ => ?_
    have keep3 : ∀ b o, b ≠ D → b ≠ ce.locals → h₁.get? b = some o → h₃.get? b = some o := fun b o x1 x2 e => (sb.2 b x1).trans (hs₂.extBut b o x2 e)
    refine ⟨kvs.length - (j + 1), by omega, j + 1, acc.push v, c + 1, _, gs', I, rfl, hlt, hos, ?_, fun b o e => ?_, hD₃, ?_, hn₂.at' fun o e => (sb.2 _ (Ne.symm nDC)).trans e, ?_, ?_, ⟨i1, i2, i3, i4⟩, ?_⟩
    · exact allBare_setGen (s := { s with gens := (s.setGen gn .running).gens }) (allBare_setGen hba rfl) hb
    · exact keep3 b o (lt1 e bD) (lt1 e bC) (keep1 b o (lt1 e bL) (lt1 e i4) (hkp b o e))
    · rw [Array.toList_push]
      have e3 : keysV (kvs.take (j + 1)) = keysV (kvs.take j) ++ [kV k] := by
        show List.map _ _ = List.map _ _ ++ _
        rw [List.take_add_one, hkv, List.map_append]
        rfl
      rw [e3]
      exact hv.append (.cons (relV_key hkey) .nil)
    · obtain ⟨o, nm, qn, ho, r⟩ := hg
      exact ⟨o, nm, qn, keep3 _ _ ngD ngC (keep1 _ _ (Ne.symm nLg) (Ne.symm i3) ho), r⟩
    · exact setGen_self (gs := .running) (setGen_self hgs)
    · have e : kvs.length - (j + 1) = mm := by omega
      rw [e]
      refine hkap _ fun b hb' o e => ?_
      rcases hb' with rfl | rfl | rfl
      · exact keep3 _ _ nLD nLC e
      · exact keep3 _ _ i1 i2 e
      · exact keep3 _ _ (Nat.ne_of_lt (Nat.lt_of_lt_of_le ld bD)) (Nat.ne_of_lt (Nat.lt_of_lt_of_le ld bC)) e
  · have ei : i = kvs.length := by omega
    subst ei
    rw [Nat.sub_self] at hgo
    refine next_genG (F := fun n s₀ s₁ => n = 0 ∧ GenSince L [I] s₀ s₁) (Er := fun _ _ => False) hh (hl1.keeps hkp) hroom hg hgs hgo (fun v s₁ gs' hb hv' => ?_) (fun s₁ hp' h' hk' => ?_) (fun e s₁ he => he.elim)
    · obtain ⟨_, _, hkap⟩ := hv'
      exact (hkap s₁ fun _ _ _ e => e).elim
    · obtain ⟨_, h₁, tk₁, rfl, hk₁⟩ := hp'
      have keep1 : ∀ b o, b ≠ L → b ≠ I → s.heap.get? b = some o → h'.get? b = some o := fun b o x1 x2 e => hk' b o (hk₁ b o x1 (fun z => x2 (List.mem_singleton.mp z)) e)
      rw [List.take_length] at hv
      refine hR _ acc c m hos ?_ (fun b o e => keep1 b o (lt1 e bL) (lt1 e i4) (hkp b o e)) (keep1 _ _ (Ne.symm nLD) (Ne.symm i1) hD) hv (hC.at' fun o e => keep1 _ o (Ne.symm nLC) (Ne.symm i2) e)
      exact allBare_setGen (s := { s with gens := (s.setGen gn .running).gens }) (allBare_setGen hba rfl) rfl
end
end Va

namespace Va
theorem chain {a b D C z : Nat} (h1 : a < b) (h2 : b < D) (h3 : D < C) (h4 : C < z) : a ≤ b ∧ a ≤ D ∧ a ≤ C ∧ a ≤ z ∧ a ≠ D ∧ a ≠ C ∧ b ≠ D ∧ b ≠ C ∧ D ≠ C ∧ a ≠ b ∧ z ≠ D ∧ z ≠ C ∧ z ≠ b := by omega
open PySem PySem.Spec PyProof.Rows L2 GenW Ub Ur Ug Ue Up
/-- [y for y in o.m()], m a generator method over the keys of the dict in the field f -/
def tLcKeys (C : Addr) (m f : Str) (ta : TE) : TE := fun σ H Q => ta σ H fun v H1 => ∃ a dx fs d kvs, v = .ref a ∧ H1 a = some (.ins C dx fs) ∧ fs.lookup m = none ∧ fs.lookup f = some (.ref d) ∧ H1 d = some (.dK kvs) ∧
  ∀ D, H1 D = none → Q (.ref D) (upd H1 D (.lst (keysV kvs)))
theorem kv_keys : ∀ {kvs : List (Key × V)} {vs : List (Key × Value)}, KV kvs vs → keysV kvs = keysV vs
  | _, _, .nil => rfl
  | _, _, .cons r t => by
    show kV _ :: keysV _ = kV _ :: keysV _
    rw [r.1, kv_keys t]
theorem pe_lcKeys {X : Cx} {o : Expr} {ta : TE} {C g : Addr} {fd : FuncData} {m f self x y qual : Str} {params : Arguments} {gsc scope : Scope} {own : List (Str × Nat)} {px p0 p1 p2 p3 p4 p5 q1 q2 apos pos pos' : Pos} {pl : Sem Bool}
    (hc : X.calm = true) (ok : BlkOk X.N X.env.scope scope own) (hyl : scope.names.lookup y = some .local) (he : PE X o ta) (c : Cls X.K C) (n : NoAttr X.K C f) (hm : Meth X.K C m g)
    (F : FunD X.K m qual params [.For (.Name x px) (.Attribute (.Name self p0) f p4) (yb x p1 p2 p3) [] p5] gsc [] [] g fd) (hbd : Binds X.K fd [self] []) (S : GScope [self, x] [self] gsc) (hx : gsc.names.lookup x = some .local) (hself : gsc.names.lookup self = some .local)
    (hr : Room 2 X.A) (hi : ∀ L cd, interactive (envOfC qual gsc L g cd) = false) (hb : ∀ L cd, attributeBase (.Name self p0) f (envOfC qual gsc L g cd) (eval (.Name self p0) (envOfC qual gsc L g cd)) = eval (.Name self p0) (envOfC qual gsc L g cd))
    (hfo : ∀ L cd v, foldedSetIterable (.Attribute (.Name self p0) f p4) (envOfC qual gsc L g cd) v = pure v)
    (hdx : (x == ("__debug__" : Str)) = false := by decide) (hds : (self == ("__debug__" : Str)) = false := by decide) (hdy : (y == ("__debug__" : Str)) = false := by decide)
    (hs : ∀ v, foldedSetIterable (.Call (.Attribute o m apos) [] [] pos') X.env v = pure v := by intro _; rfl)
    (ht : eval (.Call (.Attribute o m apos) [] [] pos') X.env = (do
      let ov ← eval o X.env
      standAt apos.atName
      let (f, first) ← holding [ov] (getMethod ov m pl)
      callWith pos' f first (backTo pos' (starEach [] X.env)) (backToKw pos' (keywordEach [] X.env))) := by rfl) :
    PE X (.ListComp (.Name y q1) [⟨.Name y q2, .Call (.Attribute o m apos) [] [] pos', [], 0⟩] scope pos) (tLcKeys C m f ta) := by
  refine ⟨fun pins s σ H Q I h => ?_⟩
  rw [eval_ListComp]
  have hfree : ∀ y ∈ scope.names, y.2 = .free → ∃ c, X.env.cells.lookup y.1 = some c := fun y hy e => by
    rcases ok.free y hy e with k | k
    · exact I.ok.has _ (.inl k)
    · exact I.ok.has _ (.inr k)
  refine wpAny_comprehension_free (use := none) rfl hs (closure_ok hfree) ok.kind (fun y hy e => by rw [ok.uniq y hy, e]) ?_
  refine PySem.W.methodCall_KW (pl := pl) (thn (he.run pins s σ H _ I h) fun u s1 ⟨v, H1, I1, rx, a, dx, fs, d, kvs, ev, ea, l, lf, hd, q⟩ => ?_) ht
  subst ev
  obtain rfl : u = Value.ref a := rx
  refine getmeth_ok I1 ea c hm l ?_
  obtain ⟨oc, od, dV, kV', doc, pm, an, cdv, ct, osl, rfl, lk, hcd, _, _⟩ := F.ex
  have lim : s1.heap.NoLimit := I1.nolimit
  refine PySem.W.callWith_K0 (first := [.ref a]) I1.kIn hm.kp (wpAny_call (codeAny_call_generator hr.depth (I1.kIn _ _ lk) rfl S.co S.gen rfl (PySem.W.codeRec_of I1.kIn hcd) (hbd s1 [.ref a] I1.kIn rfl _ _ _ _ ?_)))
  refine wpAny_newFunctionEnv_cells S.kind (fun z hz => ?_) fun env eenv s2 xin => ?_
  · have : z = (self, Value.ref a) := by simpa using hz
    rw [this]
    exact .inl hself
  subst eenv
  have lim2 : s2.heap.NoLimit := lim.keeps xin.toInCall.keep
  refine ⟨lim2, ?_⟩
  obtain ⟨hp2, tk2, es2, _⟩ := xin.done
  have os2 : s2.os = s1.os := by rw [es2]
  have gen2 : s2.gens = s1.gens := by rw [es2]
  have kp2 := xin.toInCall.keep
  have nsL := xin.toInCall.ns
  have lt2 : s1.heap.objs.size < s2.heap.objs.size := nsL.lt
  obtain ⟨mA, O, rA, _, _, _⟩ := ins_get I1.hok ea
  obtain ⟨u, hu, ru⟩ := RelO.some_of (v := V.ref d) (o := mA f) (by rw [← lf]; exact rA f)
  obtain rfl : u = Value.ref d := ru
  obtain ⟨hz, hsys, vs, kv, hdict⟩ := I1.hok d _ hd
  obtain ⟨od', es', ep, dat⟩ := hdict
  have dA : s1.heap.DictAt (mixKind X.prog X.w) d vs ep := ⟨od', es', dat⟩
  have lvs : kvs.length = vs.length := Paired.length kv
  generalize hgo : ({ cls := .type "generator", data := .fields #[.int s2.gens.size 0, .str (PySem.W.fnOf m qual params [.For (.Name x px) (.Attribute (.Name self p0) f p4) (yb x p1 p2 p3) [] p5] gsc dV kV' doc pm an cdv ct).name s2.toks, .str (PySem.W.fnOf m qual params [.For (.Name x px) (.Attribute (.Name self p0) f p4) (yb x p1 p2 p3) [] p5] gsc dV kV' doc pm an cdv ct).qualname (s2.toks + 1)] } : Obj) = go
  have hgp : ∀ h : Heap, (h.push go).get? h.objs.size = some go := fun h => by rw [← hgo]; exact Heap.get?_push_size _ rfl
  have hig : ∀ h : Heap, h.get? s2.heap.objs.size = some go → h.IsGen s2.heap.objs.size s2.gens.size := fun h e => ⟨go, _, _, e, by rw [← hgo], by rw [← hgo], by rw [← hgo]⟩
  show wpAny _ _ (pyIter (.ref s2.heap.objs.size)) _ _ ({ s2 with gens := s2.gens.push (.fresh (.func [.For (.Name x px) (.Attribute (.Name self p0) f p4) (yb x p1 p2 p3) [] p5] (envOfC qual gsc s1.heap.objs.size g cdv))), toks := s2.toks + 1 + 1, heap := s2.heap.push go } : Shared)
  generalize hs3 : ({ s2 with gens := s2.gens.push (.fresh (.func [.For (.Name x px) (.Attribute (.Name self p0) f p4) (yb x p1 p2 p3) [] p5] (envOfC qual gsc s1.heap.objs.size g cdv))), toks := s2.toks + 1 + 1, heap := s2.heap.push go } : Shared) = s3
  have h3 : s3.heap = s2.heap.push go := by rw [← hs3]
  have g3 : s3.gens[s2.gens.size]? = some (.fresh (.func [.For (.Name x px) (.Attribute (.Name self p0) f p4) (yb x p1 p2 p3) [] p5] (envOfC qual gsc s1.heap.objs.size g cdv))) := by rw [← hs3]; exact Array.getElem?_push_size ..
  have os3 : s3.os = s1.os := by rw [← hs3]; exact os2
  have ba3 : AllBare s3.gens := by rw [← hs3]; exact AllBare.push (by rw [gen2]; exact I1.bare) rfl
  have ge3 : s3.heap.get? s2.heap.objs.size = some go := by rw [h3]; exact hgp _
  have sz3 : s3.heap.objs.size = s2.heap.objs.size + 1 := by rw [h3, Heap.size_push]
  have kp3 : ∀ b o, s2.heap.get? b = some o → s3.heap.get? b = some o := fun b o e => by rw [h3]; exact Heap.get?_push_of_some _ e
  clear hs3 h3
  refine wpAny_pyIter_gen (hig _ ge3) ?_
  refine wpAny_newObj_type (newEnv_comp ?_) (by show 0 ≤ sizeLine; decide)
  generalize hD : s3.heap.objs.size = D at sz3
  generalize hs4 : ({ s3 with heap := s3.heap.push { cls := .type "list", data := .seq ([] : List Value).toArray } } : Shared) = s4
  have h4 : s4.heap = s3.heap.push { cls := .type "list", data := .seq ([] : List Value).toArray } := by rw [← hs4]
  have g4 : s4.gens = s3.gens := by rw [← hs4]
  have os4 : s4.os = s3.os := by rw [← hs4]
  have eD4 : s4.heap.get? D = some (lstObj #[] 0) := by rw [h4, ← hD]; exact Heap.get?_push_size _ rfl
  have kp4 : ∀ b o, s3.heap.get? b = some o → s4.heap.get? b = some o := fun b o e => by rw [h4]; exact Heap.get?_push_of_some _ e
  have sz4 : s4.heap.objs.size = D + 1 := by rw [h4, Heap.size_push, hD]
  clear hs4 h4
  have nsC : (s4.heap.push { cls := .type "dict", data := .dict #[] }).Ns s4.heap.objs.size (fun _ => none) := ⟨_, #[], _, Heap.get?_push_size _ rfl, rfl, (fun e he => absurd he (by simp)), fun _ => rfl⟩
  generalize hs5 : ({ s4 with heap := pushCells (s4.heap.push { cls := .type "dict", data := .dict #[] }) scope.names } : Shared) = s5
  have h5 : s5.heap = pushCells (s4.heap.push { cls := .type "dict", data := .dict #[] }) scope.names := by rw [← hs5]
  have g5 : s5.gens = s4.gens := by rw [← hs5]
  have os5 : s5.os = s4.os := by rw [← hs5]
  have kp5 : ∀ b o, s4.heap.get? b = some o → s5.heap.get? b = some o := fun b o e => by rw [h5]; exact pushCells_keeps _ _ _ _ (Heap.get?_push_of_some _ e)
  have nsC5 : s5.heap.Ns s4.heap.objs.size (fun _ => none) := by rw [h5]; exact nsC.at' fun o e => pushCells_keeps _ _ _ _ e
  clear hs5 h5 nsC
  show codeAny _ _ (.compStart _ 0 (.ref s2.heap.objs.size) (.ref D) (compEnvC scope (cellsFrom (s4.heap.objs.size + 1) scope.names (cloFrom X.env.cells scope.names [])) s4.heap.objs.size X.env)) (compPost (model X.prog X.w) X.A X.xe none _ (.ref D) s4.heap.objs.size) s5
  generalize hce : compEnvC scope (cellsFrom (s4.heap.objs.size + 1) scope.names (cloFrom X.env.cells scope.names [])) s4.heap.objs.size X.env = ce
  have cL : ce.locals = s4.heap.objs.size := by subst hce; rfl
  have ck : ce.scope.kind = .function := by subst hce; exact ok.kind
  have cy : ce.kindOf y = some .local := by subst hce; exact lookup_relabel_local hyl
  rw [← cL] at nsC5 ⊢
  have all1 : ∀ b o, s1.heap.get? b = some o → s5.heap.get? b = some o := fun b o e => kp5 _ _ (kp4 _ _ (kp3 _ _ (kp2 _ _ e)))
  have lD : s2.heap.objs.size < D := by omega
  have lC : D < ce.locals := by rw [cL]; omega
  have sz5 : ce.locals < s5.heap.objs.size := nsC5.lt
  obtain ⟨c1, c2, c3, c4, c5, c6, c7, c8, c9, c10, c11, c12, c13⟩ := chain lt2 lD lC sz5
  have nsL5 : s5.heap.Ns s1.heap.objs.size _ := nsL.at' fun o e => kp5 _ _ (kp4 _ _ (kp3 _ _ e))
  have start : LI X.prog X.w X.A s1.os s1.heap s1.heap.objs.size s2.heap.objs.size s2.gens.size d D ce.locals vs vs.length s5 := by
    refine ⟨0, #[], 0, _, .fresh (.func [.For (.Name x px) (.Attribute (.Name self p0) f p4) (yb x p1 p2 p3) [] p5] (envOfC qual gsc s1.heap.objs.size g cdv)), s5.heap.objs.size, rfl, Nat.zero_le _, (os5.trans os4).trans os3, by rw [g5, g4]; exact ba3, all1, kp5 _ _ eD4, .nil, nsC5, hig _ (kp5 _ _ (kp4 _ _ ge3)), by rw [g5, g4]; exact g3,
      ⟨c11, c12, c13, c4⟩, ?_⟩
    refine ⟨rfl, ?_⟩
    refine seg_keys (K := X.K) (env := envOfC qual gsc s1.heap.objs.size g cdv) (s := s5.setGen s2.gens.size .running) (I1.ok.hd hc) S.kind hx hself S.co (hi _ _) hdx hds (by rw [show (envOfC qual gsc s1.heap.objs.size g cdv).scope.kind = .function from S.kind]; rfl) (hb _ _) (hfo _ _)
      (I1.kIn.keeps all1) ⟨all1 _ _ O.obj, O.ns.at fun o e => all1 _ _ e, O.ne⟩ c n hu hsys (dA.keep all1) nsL5 ?_ ?_
    · exact bindL_get (P := [self]) (vs := [Value.ref a]) (i := 0) (by simp) rfl rfl hself
    · exact Nat.ne_of_gt dA.lt_size
  have loop : ∀ s', LI X.prog X.w X.A s1.os s1.heap s1.heap.objs.size s2.heap.objs.size s2.gens.size d D ce.locals vs vs.length s' → codeAny (model X.prog X.w) X.A (.compLoop (.ListComp (.Name y q1) [⟨.Name y q2, .Call (.Attribute o m apos) [] [] pos', [], 0⟩] scope pos) 0 (.ref s2.heap.objs.size) (.ref D) ce) (compPost (model X.prog X.w) X.A X.xe none (EP X pins σ Q) (.ref D) ce.locals) s' := by
    intro s' hs'
    refine loop_keys (I1.ok.hd hc) hr.depth ck cy hdy (by rw [ck]; rfl) lim (Nat.le_refl _) c1 c2 c3 dA.lt_size c5 c6 c7 c8 c9 c10 (by rw [← lvs]; exact hz) (fun s6 acc cc mm e1 e2 e3 e4 e5 e6 => ?_) _ _ hs'
    refine ⟨mm, e6, fun h' sb => ?_⟩
    rw [← kv_keys kv] at e5
    have k6 : ∀ b o, s1.heap.get? b = some o → h'.get? b = some o := fun b o e => sb.extBut b o (Nat.ne_of_lt (Nat.lt_of_lt_of_le (Heap.lt_size e) c3)) (e3 b o e)
    have nD : H1 D = none := I1.hok.fresh c2
    refine ⟨.ref D, upd H1 D (.lst (keysV kvs)), ?_, rfl, q D nD⟩
    exact I1.drained (s' := { s6 with heap := h' }) (S := D) c2 (by rw [List.length_map]; exact hz) (sb.extBut D _ (Nat.ne_of_lt lC) e4) e5 ExOk.nil e1 e2 (Un.kept k6) (I1.hok.kept k6) nD
  exact codeAny_compStart_list (loop _ start) (wpAny_pyIter_gen (hig _ (kp5 _ _ (kp4 _ _ ge3))) (loop _ start))
end Va

namespace Ve
open PySem PySem.Spec PyProof.Rows L2 Ub Ur Ug Ue Up Uo
theorem units4 {k : Nat} {A : Around} (r : Room k A) : A.units + 4 < cLine := by have := r.un; omega
/-- a class whose instances may be asked isinstance -/
structure TyC (K : PySem.W.Frag) (C : Addr) : Prop where
  ha : PySem.W.findIn K (.ref C) "__class__" = some (some (.builtin "object.__class__"))
  hn : PySem.W.specialIn K (.builtin "object.__class__") "__get__" = some (some (.builtin "getset_descriptor.__get__"))
  ht : PySem.W.takesIn K (.builtin "object.__class__") = some true
  hm : PySem.W.mroIn K C (.type "object") = some true
  kit : PySem.W.kitOne K (.ref C) (.ref C) = some true
def tyCB (K : PySem.W.Frag) (C : Addr) : Bool := decide (PySem.W.findIn K (.ref C) "__class__" = some (some (.builtin "object.__class__"))) && (decide (PySem.W.specialIn K (.builtin "object.__class__") "__get__" = some (some (.builtin "getset_descriptor.__get__"))) &&
  (decide (PySem.W.takesIn K (.builtin "object.__class__") = some true) && (decide (PySem.W.mroIn K C (.type "object") = some true) && decide (PySem.W.kitOne K (.ref C) (.ref C) = some true))))
theorem tyCB_ok {K : PySem.W.Frag} {C : Addr} (h : tyCB K C = true) : TyC K C := by
  unfold tyCB at h
  simp only [Bool.and_eq_true, decide_eq_true_eq] at h
  exact ⟨h.1, h.2.1, h.2.2.1, h.2.2.2.1, h.2.2.2.2⟩
theorem TyC.ty {K : PySem.W.Frag} {C a dx : Addr} {H : Hp} {fs : List (Str × V)} (t : TyC K C) (c : Cls K C) (e : H a = some (.ins C dx fs)) : TyX K H (.ref a) (.ref C) := .base (.ins e c t.ha t.hn t.ht t.hm)
abbrev pks (t : Tr) : List Str := (paths t).map (·.1)
/-- what is no path of a tree -/
def NoP (K : PySem.W.Frag) (H : Hp) (t : Tr) (y : V) : Prop := NotStr K H y ∨ ∃ z : Str, y = .str z ∧ z ∉ pks t
def sp_get (K : PySem.W.Frag) (C B : Addr) : Sp := fun vs H Q E => ∃ x g Z y, vs = [.ref x, y] ∧ ShG Z C H x g ∧ good g.tr ∧
  ((∃ m ∈ gpaths x g, y = .str m.1 ∧ Q (.ref m.2.1) H) ∨ (NoP K H g.tr y ∧ ∀ e H', Same H H' → H e = none → H' e = some (.xd [("path", y)]) → E (.ref B) (some e) H'))
def sp_con (K : PySem.W.Frag) (C : Addr) : Sp := fun vs H Q _ => ∃ x g Z y, vs = [.ref x, y] ∧ ShG Z C H x g ∧ good g.tr ∧ ((∃ z : Str, y = .str z ∧ Q (.bl (decide (z ∈ pks g.tr))) H) ∨ (NotStr K H y ∧ Q (.bl false) H))
def sp_eqS (K : PySem.W.Frag) (C : Addr) : Sp := fun vs H Q _ => ∃ x g Z y, vs = [.ref x, y] ∧ ShG Z C H x g ∧ ((∃ x' g' Z', y = .ref x' ∧ ShG Z' C H x' g' ∧ Q (.bl (decide (g.tr.text = g'.tr.text))) H) ∨ (∃ T : String, TyX K H y (.type T) ∧ PySem.W.kitOne K (.type T) (.ref C) = some false ∧ Q (.bl false) H))
theorem gp_len : ∀ g : Sg, (gp g).length = g.tr.size
  | .nil => rfl
  | .cons w p s r => by
    show ((((("." : Str), p, s) :: gp s).map fun m => (down w m.1, m.2)) ++ gp r).length = 1 + s.tr.size + r.tr.size
    rw [List.length_append, List.length_map, List.length_cons, gp_len s, gp_len r]
    omega
end Ve

namespace Lx
open PySem PySem.Spec PyProof.Rows L2 Ub
def topS (i : Nat) : Stmt := PySem.Challenge.pw_unseenwrites_k08_updates_made.main.body.getD i (.Pass ⟨0, 0, 0, 0⟩)
abbrev s_wall : Stmt := topS 0
abbrev s_BadShape___init__ : Stmt := inClass (topS 3) 0
abbrev s_BadPath___init__ : Stmt := inClass (topS 4) 0
abbrev s_BadValues___init__ : Stmt := inClass (topS 5) 0
abbrev s_BadValue___init__ : Stmt := inClass (topS 6) 0
abbrev s_BadParameters___init__ : Stmt := inClass (topS 7) 0
abbrev s_BadRow___init__ : Stmt := inClass (topS 8) 0
abbrev s_BadLine___init__ : Stmt := inClass (topS 9) 0
abbrev s_TooMany___init__ : Stmt := inClass (topS 10) 0
abbrev s_BadDocument___init__ : Stmt := inClass (topS 11) 0
abbrev s_UnlikeFaces___init__ : Stmt := inClass (topS 12) 0
abbrev s_is_word : Stmt := topS 20
abbrev s_records_of : Stmt := topS 21
abbrev s_plains_of : Stmt := topS 22
abbrev s_text_of : Stmt := topS 23
abbrev s_scan_word : Stmt := topS 24
abbrev s_scan_shape : Stmt := topS 25
abbrev s_is_bounded : Stmt := topS 26
abbrev s_tree_of : Stmt := topS 27
abbrev s_words_of : Stmt := topS 28
abbrev s_Shape___init__ : Stmt := inClass (topS 29) 0
abbrev s_Shape_is_plain : Stmt := inClass (topS 29) 1
abbrev s_Shape_depth : Stmt := inClass (topS 29) 2
abbrev s_Shape_records : Stmt := inClass (topS 29) 3
abbrev s_Shape_plains : Stmt := inClass (topS 29) 4
abbrev s_Shape_paths : Stmt := inClass (topS 29) 5
abbrev s_Shape_record_paths : Stmt := inClass (topS 29) 6
abbrev s_Shape_plain_paths : Stmt := inClass (topS 29) 7
abbrev s_Shape___getitem__ : Stmt := inClass (topS 29) 8
abbrev s_Shape___contains__ : Stmt := inClass (topS 29) 9
abbrev s_Shape___iter__ : Stmt := inClass (topS 29) 10
abbrev s_Shape___eq__ : Stmt := inClass (topS 29) 11
abbrev s_Shape___str__ : Stmt := inClass (topS 29) 12
abbrev s_is_whole : Stmt := topS 31
abbrev s_are_wholes : Stmt := topS 32
abbrev s_are_same : Stmt := topS 33
abbrev s_renewed : Stmt := topS 34
abbrev s_merger : Stmt := topS 35
abbrev s_Part___init__ : Stmt := inClass (topS 37) 0
abbrev s_Part_content : Stmt := inClass (topS 37) 1
abbrev s_Part___getitem__ : Stmt := inClass (topS 37) 2
abbrev s_Part___setitem__ : Stmt := inClass (topS 37) 3
abbrev s_Part___contains__ : Stmt := inClass (topS 37) 4
abbrev s_Part___iter__ : Stmt := inClass (topS 37) 5
abbrev s_Part_same_as : Stmt := inClass (topS 37) 6
abbrev s_Part_copied : Stmt := inClass (topS 37) 7
abbrev s_Part___eq__ : Stmt := inClass (topS 37) 8
abbrev s_Part___str__ : Stmt := inClass (topS 37) 9
abbrev s_SetRow___init__ : Stmt := inClass (topS 44) 1
abbrev s_SetRow_evaluate : Stmt := inClass (topS 44) 2
abbrev s_SetRow_write : Stmt := inClass (topS 44) 3
abbrev s_NewRow_write : Stmt := inClass (topS 45) 1
abbrev s_EditRow_write : Stmt := inClass (topS 46) 1
abbrev s_MergeRow_write : Stmt := inClass (topS 47) 1
abbrev s_made_row : Stmt := topS 48
abbrev s_term_of : Stmt := topS 49
abbrev s_read_row : Stmt := topS 50
abbrev s_fits_behind : Stmt := topS 51
abbrev s_are_parameters : Stmt := topS 52
abbrev s_read_parameters : Stmt := topS 53
abbrev s_read_head : Stmt := topS 54
abbrev s_renamed : Stmt := topS 58
abbrev s_joined_parameters : Stmt := topS 59
abbrev s_joined_rows : Stmt := topS 60
abbrev s_split_rows : Stmt := topS 61
abbrev s_Update___init__ : Stmt := inClass (topS 62) 0
abbrev s_Update_read : Stmt := inClass (topS 62) 1
abbrev s_Update_slots : Stmt := inClass (topS 62) 2
abbrev s_Update_marks : Stmt := inClass (topS 62) 3
abbrev s_Update_sections : Stmt := inClass (topS 62) 4
abbrev s_Update_bound : Stmt := inClass (topS 62) 5
abbrev s_Update___call__ : Stmt := inClass (topS 62) 6
abbrev s_Update___or__ : Stmt := inClass (topS 62) 7
abbrev s_Update_turned : Stmt := inClass (topS 62) 8
abbrev s_Update___eq__ : Stmt := inClass (topS 62) 9
abbrev s_Update___str__ : Stmt := inClass (topS 62) 10
abbrev s_law_start : Stmt := topS 64
abbrev s_law_draw : Stmt := topS 65
abbrev s_law_of : Stmt := topS 66
abbrev s_law_word : Stmt := topS 67
abbrev s_law_records : Stmt := topS 68
abbrev s_law_plains : Stmt := topS 69
abbrev s_law_depth : Stmt := topS 70
abbrev s_law_text : Stmt := topS 71
abbrev s_law_tree : Stmt := topS 72
abbrev s_law_paths : Stmt := topS 73
abbrev s_law_made_shape : Stmt := topS 74
abbrev s_law_parameters : Stmt := topS 75
abbrev s_law_row : Stmt := topS 76
abbrev s_law_row_text : Stmt := topS 77
abbrev s_law_rows : Stmt := topS 78
abbrev s_law_update : Stmt := topS 79
abbrev s_law_sections : Stmt := topS 80
abbrev s_law_right : Stmt := topS 81
abbrev s_law : Stmt := topS 82
def ddK (at_ : Str × Option Str) (x q : Str) (st : Stmt) (dfl : List He.Dv) (kwd : List (Str × He.Dv)) : He.DefD := ⟨at_, x, q, defArgs st, defBody st, defScope st, dfl, kwd⟩
def dd (at_ : Str × Option Str) (x q : Str) (st : Stmt) (dfl : List He.Dv) : He.DefD := ⟨at_, x, q, defArgs st, defBody st, defScope st, dfl, []⟩
def fn0 : List He.DefD := [dd ("BadShape", some "__init__") "__init__" "BadShape.__init__" s_BadShape___init__ [],
  dd ("BadPath", some "__init__") "__init__" "BadPath.__init__" s_BadPath___init__ [],
  dd ("BadParameters", some "__init__") "__init__" "BadParameters.__init__" s_BadParameters___init__ [],
  dd ("BadRow", some "__init__") "__init__" "BadRow.__init__" s_BadRow___init__ [],
  dd ("BadLine", some "__init__") "__init__" "BadLine.__init__" s_BadLine___init__ [],
  dd ("is_word", none) "is_word" "is_word" s_is_word [],
  dd ("records_of", none) "records_of" "records_of" s_records_of [],
  dd ("plains_of", none) "plains_of" "plains_of" s_plains_of [],
  dd ("text_of", none) "text_of" "text_of" s_text_of [],
  dd ("scan_word", none) "scan_word" "scan_word" s_scan_word [],
  dd ("scan_shape", none) "scan_shape" "scan_shape" s_scan_shape [.int 3],
  dd ("is_bounded", none) "is_bounded" "is_bounded" s_is_bounded [],
  dd ("tree_of", none) "tree_of" "tree_of" s_tree_of [],
  dd ("Shape", some "__init__") "__init__" "Shape.__init__" s_Shape___init__ [],
  dd ("Shape", some "__getitem__") "__getitem__" "Shape.__getitem__" s_Shape___getitem__ [],
  dd ("Shape", some "__contains__") "__contains__" "Shape.__contains__" s_Shape___contains__ [],
  dd ("Shape", some "__eq__") "__eq__" "Shape.__eq__" s_Shape___eq__ [],
  dd ("SetRow", some "__init__") "__init__" "SetRow.__init__" s_SetRow___init__ [],
  dd ("made_row", none) "made_row" "made_row" s_made_row [],
  dd ("term_of", none) "term_of" "term_of" s_term_of [],
  dd ("read_row", none) "read_row" "read_row" s_read_row [],
  dd ("fits_behind", none) "fits_behind" "fits_behind" s_fits_behind [],
  dd ("are_parameters", none) "are_parameters" "are_parameters" s_are_parameters [],
  dd ("read_parameters", none) "read_parameters" "read_parameters" s_read_parameters []]
def fa0 : List He.Fa := [.glo "UnseenwritesError", .glo "BadShape", .glo "BadPath", .glo "BadParameters", .glo "BadRow", .glo "BadLine", .glo "KEPT_WORDS", .glo "is_word", .glo "records_of", .glo "plains_of", .glo "text_of", .glo "scan_word", .glo "scan_shape", .glo "is_bounded", .glo "tree_of", .glo "Shape", .glo "MARKS_writing", .glo "SetRow", .glo "NewRow", .glo "EditRow", .glo "MergeRow", .glo "made_row", .glo "term_of", .glo "read_row", .glo "fits_behind", .glo "are_parameters", .glo "read_parameters", .glo "read_head", .glo "MARKS_updates", .glo "JOINED_WORDS", .glo "split_rows", .glo "Update", .glo "_law_start", .glo "_law_draw", .glo "_law_of", .glo "_law_word", .glo "_law_records", .glo "_law_plains", .glo "_law_depth", .glo "_law_text", .glo "_law_tree", .glo "_law_paths", .glo "_law_made_shape", .glo "_law_parameters", .glo "_law_row", .glo "_law_row_text", .glo "_law_rows", .glo "_law_update", .glo "_law_sections", .glo "_law_right", .glo "law", .int "MOST_DEPTH" 3, .int "MOST_RECORDS" 5, .int "MOST_PLAINS" 5, .int "MOST_FIELDS" 3, .int "MOST_PARAMETERS" 3, .int "MOST_SLOTS" 3]
def ex0 (K : PySem.W.Frag) : Bool := true
def fn1 : List He.DefD := [dd ("read_head", none) "read_head" "read_head" s_read_head [],
  dd ("split_rows", none) "split_rows" "split_rows" s_split_rows [],
  dd ("Update", some "__init__") "__init__" "Update.__init__" s_Update___init__ [],
  dd ("Update", some "__eq__") "__eq__" "Update.__eq__" s_Update___eq__ [],
  dd ("Update", some "__str__") "__str__" "Update.__str__" s_Update___str__ [],
  dd ("_law_start", none) "_law_start" "_law_start" s_law_start [],
  dd ("_law_draw", none) "_law_draw" "_law_draw" s_law_draw [],
  dd ("_law_of", none) "_law_of" "_law_of" s_law_of [],
  dd ("_law_word", none) "_law_word" "_law_word" s_law_word [],
  dd ("_law_records", none) "_law_records" "_law_records" s_law_records [],
  dd ("_law_plains", none) "_law_plains" "_law_plains" s_law_plains [],
  dd ("_law_depth", none) "_law_depth" "_law_depth" s_law_depth [],
  dd ("_law_text", none) "_law_text" "_law_text" s_law_text [],
  dd ("_law_tree", none) "_law_tree" "_law_tree" s_law_tree [],
  dd ("_law_paths", none) "_law_paths" "_law_paths" s_law_paths [],
  dd ("_law_made_shape", none) "_law_made_shape" "_law_made_shape" s_law_made_shape [],
  dd ("_law_parameters", none) "_law_parameters" "_law_parameters" s_law_parameters [],
  dd ("_law_row", none) "_law_row" "_law_row" s_law_row [],
  dd ("_law_row_text", none) "_law_row_text" "_law_row_text" s_law_row_text [],
  dd ("_law_rows", none) "_law_rows" "_law_rows" s_law_rows [],
  dd ("_law_update", none) "_law_update" "_law_update" s_law_update [],
  dd ("_law_sections", none) "_law_sections" "_law_sections" s_law_sections [],
  dd ("_law_right", none) "_law_right" "_law_right" s_law_right [],
  dd ("law", none) "law" "law" s_law []]
def fa1 : List He.Fa := [.int "MOST_ROWS" 8, .int "MOST_THENS" 3, .str "LETTERS" "abcdefghijklmnopqrstuvwxyz", .free "ValueError", .free "abs", .free "all", .free "bool", .free "classmethod", .free "dict", .free "enumerate", .free "int", .free "isinstance", .free "iter", .free "len", .free "max", .free "range", .free "str", .free "sum", .free "super", .free "tuple", .free "zip", .cls "Shape", .mkr "Shape", .noat "Shape" "text", .noat "Shape" "tree", .noat "Shape" "names", .noat "Shape" "fields", .noat "Shape" "spots", .meth "Shape" "__getitem__", .meth "Shape" "__contains__", .meth "Shape" "__eq__", .cls "Update", .mkr "Update", .noat "Update" "shape", .noat "Update" "parameters", .noat "Update" "rows", .noat "Update" "kinds", .noat "Update" "writings", .meth "Update" "__eq__", .meth "Update" "__str__", .cls "SetRow", .mkr "SetRow", .noat "SetRow" "path", .noat "SetRow" "source", .noat "SetRow" "word", .cls "NewRow", .noat "NewRow" "path", .noat "NewRow" "source", .noat "NewRow" "word", .cls "EditRow", .noat "EditRow" "path", .noat "EditRow" "source", .noat "EditRow" "word", .cls "MergeRow", .noat "MergeRow" "path", .noat "MergeRow" "source", .noat "MergeRow" "word"]
def ex1 (K : PySem.W.Frag) : Bool := (He.tupB K "KEPT_WORDS" [.str "document", .str "update", .str "set", .str "new", .str "edit", .str "merge", .str "then", .str "old", .str "copy"]) && (He.tupB K "MARKS_writing" [.str "set", .str "new", .str "edit", .str "merge"]) && (He.tupB K "MARKS_updates" [.str "set", .str "new", .str "edit", .str "merge"]) && (He.tupB K "JOINED_WORDS" [.str "a", .str "b", .str "c"]) && (decide (PySem.W.fnIn K (He.fAd K ("Shape", some "__eq__")) = true)) && (decide (PySem.W.fnIn K (He.fAd K ("Shape", some "__getitem__")) = true)) && (decide (PySem.W.fnIn K (He.fAd K ("Shape", some "__contains__")) = true)) && (decide (PySem.W.fnIn K (He.fAd K ("Update", some "__eq__")) = true)) && (decide (PySem.W.fnIn K (He.fAd K ("Update", some "__str__")) = true)) && (Uo.nfB K (He.ga K "Shape")) && (Uo.noNeB K (He.ga K "Shape")) && (Ve.tyCB K (He.ga K "Shape")) && (Uo.nfB K (He.ga K "Update")) && (Uo.noNeB K (He.ga K "Update")) && (Ve.tyCB K (He.ga K "Update")) && (decide (PySem.W.kitOne K (.type "str") (.ref (He.ga K "Update")) = some false)) && (decide (PySem.W.kitOne K (.type "NoneType") (.ref (He.ga K "Update")) = some false)) && (Ya.mkB K (He.ga K "NewRow") (He.fAd K ("SetRow", some "__init__"))) && (Ya.mkB K (He.ga K "EditRow") (He.fAd K ("SetRow", some "__init__"))) && (Ya.mkB K (He.ga K "MergeRow") (He.fAd K ("SetRow", some "__init__"))) && (Ya.clmB K "Update" "read") && (Ue.exB K (He.ga K "BadShape") (He.fAd K ("BadShape", some "__init__")) "text") && (Ue.exB K (He.ga K "BadPath") (He.fAd K ("BadPath", some "__init__")) "path") && (Ue.exB K (He.ga K "BadParameters") (He.fAd K ("BadParameters", some "__init__")) "parameters") && (Ue.exB K (He.ga K "BadRow") (He.fAd K ("BadRow", some "__init__")) "at") && (Ue.exB K (He.ga K "BadLine") (He.fAd K ("BadLine", some "__init__")) "at") && (Vk.propB K "Shape" "is_plain") && (Vk.propB K "Shape" "plains") && (Vk.propB K "Update" "slots") && (Vk.propB K "Update" "marks") && (Vk.propB K "Update" "sections")
abbrev fn : List He.DefD := (fn0 ++ fn1)
abbrev fa : List He.Fa := (fa0 ++ fa1)
abbrev ex : PySem.W.Frag → Bool := (fun K => ex0 K && ex1 K)
def pd (x f q : Str) (st : Stmt) : He5.DefA := ⟨fun K => Vk.gAd K x f, f, q, defArgs st, defBody st, defScope st, [], []⟩
def pc (x f q : Str) (st : Stmt) : He5.DefA := ⟨fun K => Ya.cAd K x f, f, q, defArgs st, defBody st, defScope st, [], []⟩
def pn : List He5.DefA := [pd "Shape" "is_plain" "Shape.is_plain" s_Shape_is_plain, pd "Shape" "plains" "Shape.plains" s_Shape_plains, pc "Update" "read" "Update.read" s_Update_read, pd "Update" "slots" "Update.slots" s_Update_slots, pd "Update" "marks" "Update.marks" s_Update_marks, pd "Update" "sections" "Update.sections" s_Update_sections]
abbrev pl : List He5.DefA := pn
def asL : List Addr := [3, 6, 4, 21, 31, 51, 70, 89, 108, 127, 146, 165, 184, 203, 222, 225, 230, 235, 240, 245, 252, 258, 265, 272, 279, 382, 393, 398, 405, 412, 419, 429, 513, 518, 549, 570, 591, 612, 621, 628, 635, 640, 647, 654, 661, 662, 663, 670, 675, 680, 685, 770, 779, 786, 793, 798, 803, 808, 813, 818, 823, 830, 837, 842, 847, 854, 859, 864, 869, 874, 879, 0, 20, 30, 50, 69, 88, 107, 126, 145, 164, 183, 202, 221, 229, 234, 239, 244, 251, 257, 253, 264, 271, 278, 381, 392, 397, 404, 411, 418, 428, 512, 548, 569, 590, 611, 620, 627, 634, 639, 646, 653, 660, 669, 674, 679, 684, 769, 778, 785, 792, 797, 802, 807, 812, 817, 822, 829, 836, 841, 846, 853, 858, 863, 868, 873, 878, 15, 16, 17, 18, 19, 29, 32, 48, 49, 67, 68, 86, 87, 105, 106, 124, 125, 143, 144, 162, 163, 181, 182, 200, 201, 219, 220, 226, 227, 228, 231, 232, 233, 236, 237, 238, 241, 242, 243, 246, 247, 248, 249, 250, 254, 255, 256, 259, 260, 261, 262, 263, 266, 267, 268, 269, 270, 273, 274, 275, 276, 277, 291, 299, 307, 315, 323, 330, 337, 344, 351, 358, 365, 372, 379, 380, 383, 384, 387, 388, 389, 390, 391, 394, 395, 396, 399, 400, 401, 402, 403, 406, 407, 408, 409, 410, 413, 414, 415, 416, 417, 427, 430, 431, 448, 456, 463, 470, 477, 484, 491, 498, 505, 510, 511, 514, 515, 532, 539, 546, 547, 550, 551, 567, 568, 588, 589, 609, 610, 615, 616, 617, 618, 619, 622, 623, 624, 625, 626, 629, 630, 631, 632, 633, 636, 637, 638, 641, 642, 643, 644, 645, 648, 649, 650, 651, 652, 655, 656, 657, 658, 659, 664, 665, 666, 667, 668, 671, 672, 673, 676, 677, 678, 681, 682, 683, 697, 706, 713, 719, 727, 734, 741, 746, 753, 760, 767, 768, 771, 772, 775, 776, 777, 780, 781, 782, 783, 784, 787, 788, 789, 790, 791, 794, 795, 796, 799, 800, 801, 804, 805, 806, 809, 810, 811, 814, 815, 816, 819, 820, 821, 824, 825, 826, 827, 828, 831, 832, 833, 834, 835, 838, 839, 840, 843, 844, 845, 848, 849, 850, 851, 852, 855, 856, 857, 860, 861, 862, 865, 866, 867, 870, 871, 872, 875, 876, 877, 47, 66, 85, 104, 123, 142, 161, 180, 199, 218, 290, 298, 306, 314, 322, 329, 336, 343, 350, 357, 364, 371, 378, 447, 441, 455, 462, 469, 476, 483, 490, 497, 504, 509, 531, 538, 545, 566, 587, 576, 608, 597, 696, 704, 705, 712, 718, 726, 733, 740, 745, 752, 759, 766, 42, 43, 44, 45, 46, 61, 62, 63, 64, 65, 80, 81, 82, 83, 84, 99, 100, 101, 102, 103, 118, 119, 120, 121, 122, 137, 138, 139, 140, 141, 156, 157, 158, 159, 160, 175, 176, 177, 178, 179, 194, 195, 196, 197, 198, 213, 214, 215, 216, 217, 287, 288, 289, 297, 305, 313, 321, 324, 325, 326, 327, 328, 331, 332, 333, 334, 335, 338, 339, 340, 341, 342, 345, 346, 347, 348, 349, 352, 353, 354, 355, 356, 359, 360, 361, 362, 363, 366, 367, 368, 369, 370, 373, 374, 375, 376, 377, 442, 443, 444, 445, 446, 454, 457, 458, 459, 460, 461, 464, 465, 466, 467, 468, 471, 472, 473, 474, 475, 478, 479, 480, 481, 482, 485, 486, 487, 488, 489, 492, 493, 494, 495, 496, 499, 500, 501, 502, 503, 506, 507, 508, 526, 527, 528, 529, 530, 533, 534, 535, 536, 537, 540, 541, 542, 543, 544, 561, 562, 563, 564, 565, 582, 583, 584, 585, 586, 603, 604, 605, 606, 607, 693, 694, 695, 703, 707, 711, 717, 725, 728, 729, 730, 731, 732, 735, 736, 737, 738, 739, 742, 743, 744, 747, 748, 749, 750, 751, 754, 755, 756, 757, 758, 761, 762, 763, 764, 765, 292, 293, 294, 295, 296, 300, 301, 302, 303, 304, 308, 309, 310, 311, 312, 316, 317, 318, 319, 320, 449, 450, 451, 452, 453, 698, 699, 700, 701, 702, 708, 709, 710, 714, 715, 716, 720, 721, 722, 723, 724, 2]
abbrev R : PySem.W.OpenRow := PySem.W.OpenLaw.row PySem.Challenge.rw_unseenwrites_k08_updates_made
abbrev hk : PySem.W.Hook := Vk.hookL asL fa fn pl ex
def ob (s : PySem.W.SharedT) : Vk.AlP := Vk.obsL asL fa fn pl ex (HandSHeadRun.getT s)
theorem ob_eq (s : PySem.W.SharedT) : ob s = hk.obs s.abs := Vk.obsL_eq (HandSHeadRun.getT_eq s)
abbrev Says (w : World) (h : Heap) (K : PySem.W.Frag) : Prop := Vk.SaysP fa fn pl ex w h K
abbrev loose0 : List Str := ["_wall", "__name__", "UnseenwritesError", "BadShape", "BadPath", "BadValues", "BadValue", "BadParameters", "BadRow", "BadLine", "TooMany", "BadDocument", "UnlikeFaces", "MOST_DEPTH", "MOST_RECORDS", "MOST_PLAINS", "MOST_FIELDS", "LETTERS", "KEPT_WORDS", "is_word", "records_of", "plains_of", "text_of", "scan_word", "scan_shape", "is_bounded", "tree_of", "words_of", "Shape", "is_whole"]
abbrev loose1 : List Str := ["are_wholes", "are_same", "renewed", "merger", "Token", "Part", "MARKS_writing", "MOST_PARAMETERS", "MOST_SLOTS", "MOST_ROWS", "MOST_THENS", "SetRow", "NewRow", "EditRow", "MergeRow", "made_row", "term_of", "read_row", "fits_behind", "are_parameters", "read_parameters", "read_head", "MARKS_updates", "JOINED_WORDS", "renamed", "joined_parameters", "joined_rows", "split_rows", "Update", "_law_start"]
abbrev loose2 : List Str := ["_law_draw", "_law_of", "_law_word", "_law_records", "_law_plains", "_law_depth", "_law_text", "_law_tree", "_law_paths", "_law_made_shape", "_law_parameters", "_law_row", "_law_row_text", "_law_rows", "_law_update", "_law_sections", "_law_right"]
abbrev loose : List Str := loose0 ++ loose1 ++ loose2
/-! ### what the top has left -/
structure Tx (K : PySem.W.Frag) (mg : Str → Option Value) : Prop where
  ValueError : mg "ValueError" = none
  abs : mg "abs" = none
  all : mg "all" = none
  bool : mg "bool" = none
  classmethod : mg "classmethod" = none
  dict : mg "dict" = none
  enumerate : mg "enumerate" = none
  int : mg "int" = none
  isinstance : mg "isinstance" = none
  iter : mg "iter" = none
  len : mg "len" = none
  max : mg "max" = none
  range : mg "range" = none
  str : mg "str" = none
  sum : mg "sum" = none
  super : mg "super" = none
  tuple : mg "tuple" = none
  zip : mg "zip" = none
  c_MOST_DEPTH : ∃ t, mg "MOST_DEPTH" = some (.int 3 t)
  c_MOST_RECORDS : ∃ t, mg "MOST_RECORDS" = some (.int 5 t)
  c_MOST_PLAINS : ∃ t, mg "MOST_PLAINS" = some (.int 5 t)
  c_MOST_FIELDS : ∃ t, mg "MOST_FIELDS" = some (.int 3 t)
  c_LETTERS : ∃ t, mg "LETTERS" = some (.str "abcdefghijklmnopqrstuvwxyz" t)
  g_KEPT_WORDS : mg "KEPT_WORDS" = some (.ref (He.ga K "KEPT_WORDS"))
  t_KEPT_WORDS : ∀ H, SqT K H (He.ga K "KEPT_WORDS") [.str "document", .str "update", .str "set", .str "new", .str "edit", .str "merge", .str "then", .str "old", .str "copy"]
  g_MARKS_writing : mg "MARKS_writing" = some (.ref (He.ga K "MARKS_writing"))
  t_MARKS_writing : ∀ H, SqT K H (He.ga K "MARKS_writing") [.str "set", .str "new", .str "edit", .str "merge"]
  c_MOST_PARAMETERS : ∃ t, mg "MOST_PARAMETERS" = some (.int 3 t)
  c_MOST_SLOTS : ∃ t, mg "MOST_SLOTS" = some (.int 3 t)
  c_MOST_ROWS : ∃ t, mg "MOST_ROWS" = some (.int 8 t)
  c_MOST_THENS : ∃ t, mg "MOST_THENS" = some (.int 3 t)
  g_MARKS_updates : mg "MARKS_updates" = some (.ref (He.ga K "MARKS_updates"))
  t_MARKS_updates : ∀ H, SqT K H (He.ga K "MARKS_updates") [.str "set", .str "new", .str "edit", .str "merge"]
  g_JOINED_WORDS : mg "JOINED_WORDS" = some (.ref (He.ga K "JOINED_WORDS"))
  t_JOINED_WORDS : ∀ H, SqT K H (He.ga K "JOINED_WORDS") [.str "a", .str "b", .str "c"]
  g_UnseenwritesError : mg "UnseenwritesError" = some (.ref (He.ga K "UnseenwritesError"))
  g_BadShape : mg "BadShape" = some (.ref (He.ga K "BadShape"))
  g_BadPath : mg "BadPath" = some (.ref (He.ga K "BadPath"))
  g_BadParameters : mg "BadParameters" = some (.ref (He.ga K "BadParameters"))
  g_BadRow : mg "BadRow" = some (.ref (He.ga K "BadRow"))
  g_BadLine : mg "BadLine" = some (.ref (He.ga K "BadLine"))
  g_is_word : mg "is_word" = some (.ref (He.ga K "is_word"))
  g_records_of : mg "records_of" = some (.ref (He.ga K "records_of"))
  g_plains_of : mg "plains_of" = some (.ref (He.ga K "plains_of"))
  g_text_of : mg "text_of" = some (.ref (He.ga K "text_of"))
  g_scan_word : mg "scan_word" = some (.ref (He.ga K "scan_word"))
  g_scan_shape : mg "scan_shape" = some (.ref (He.ga K "scan_shape"))
  g_is_bounded : mg "is_bounded" = some (.ref (He.ga K "is_bounded"))
  g_tree_of : mg "tree_of" = some (.ref (He.ga K "tree_of"))
  g_Shape : mg "Shape" = some (.ref (He.ga K "Shape"))
  g_SetRow : mg "SetRow" = some (.ref (He.ga K "SetRow"))
  g_NewRow : mg "NewRow" = some (.ref (He.ga K "NewRow"))
  g_EditRow : mg "EditRow" = some (.ref (He.ga K "EditRow"))
  g_MergeRow : mg "MergeRow" = some (.ref (He.ga K "MergeRow"))
  g_made_row : mg "made_row" = some (.ref (He.ga K "made_row"))
  g_term_of : mg "term_of" = some (.ref (He.ga K "term_of"))
  g_read_row : mg "read_row" = some (.ref (He.ga K "read_row"))
  g_fits_behind : mg "fits_behind" = some (.ref (He.ga K "fits_behind"))
  g_are_parameters : mg "are_parameters" = some (.ref (He.ga K "are_parameters"))
  g_read_parameters : mg "read_parameters" = some (.ref (He.ga K "read_parameters"))
  g_read_head : mg "read_head" = some (.ref (He.ga K "read_head"))
  g_split_rows : mg "split_rows" = some (.ref (He.ga K "split_rows"))
  g_Update : mg "Update" = some (.ref (He.ga K "Update"))
  g__law_start : mg "_law_start" = some (.ref (He.ga K "_law_start"))
  g__law_draw : mg "_law_draw" = some (.ref (He.ga K "_law_draw"))
  g__law_of : mg "_law_of" = some (.ref (He.ga K "_law_of"))
  g__law_word : mg "_law_word" = some (.ref (He.ga K "_law_word"))
  g__law_records : mg "_law_records" = some (.ref (He.ga K "_law_records"))
  g__law_plains : mg "_law_plains" = some (.ref (He.ga K "_law_plains"))
  g__law_depth : mg "_law_depth" = some (.ref (He.ga K "_law_depth"))
  g__law_text : mg "_law_text" = some (.ref (He.ga K "_law_text"))
  g__law_tree : mg "_law_tree" = some (.ref (He.ga K "_law_tree"))
  g__law_paths : mg "_law_paths" = some (.ref (He.ga K "_law_paths"))
  g__law_made_shape : mg "_law_made_shape" = some (.ref (He.ga K "_law_made_shape"))
  g__law_parameters : mg "_law_parameters" = some (.ref (He.ga K "_law_parameters"))
  g__law_row : mg "_law_row" = some (.ref (He.ga K "_law_row"))
  g__law_row_text : mg "_law_row_text" = some (.ref (He.ga K "_law_row_text"))
  g__law_rows : mg "_law_rows" = some (.ref (He.ga K "_law_rows"))
  g__law_update : mg "_law_update" = some (.ref (He.ga K "_law_update"))
  g__law_sections : mg "_law_sections" = some (.ref (He.ga K "_law_sections"))
  g__law_right : mg "_law_right" = some (.ref (He.ga K "_law_right"))
  g_law : mg "law" = some (.ref (He.ga K "law"))
  fi_eq : PySem.W.fnIn K (He.fAd K ("Shape", some "__eq__")) = true
  fi_get : PySem.W.fnIn K (He.fAd K ("Shape", some "__getitem__")) = true
  fi_con : PySem.W.fnIn K (He.fAd K ("Shape", some "__contains__")) = true
  fi_ueq : PySem.W.fnIn K (He.fAd K ("Update", some "__eq__")) = true
  fi_ustr : PySem.W.fnIn K (He.fAd K ("Update", some "__str__")) = true
  nf : Uo.NF K (He.ga K "Shape")
  nn : Uo.NoNe K (He.ga K "Shape")
  ty : Ve.TyC K (He.ga K "Shape")
  nfU : Uo.NF K (He.ga K "Update")
  nnU : Uo.NoNe K (He.ga K "Update")
  tyU : Ve.TyC K (He.ga K "Update")
  ku_str : PySem.W.kitOne K (.type "str") (.ref (He.ga K "Update")) = some false
  ku_NoneType : PySem.W.kitOne K (.type "NoneType") (.ref (He.ga K "Update")) = some false
  m_NewRow : Mk K (He.ga K "NewRow") (He.fAd K ("SetRow", some "__init__"))
  m_EditRow : Mk K (He.ga K "EditRow") (He.fAd K ("SetRow", some "__init__"))
  m_MergeRow : Mk K (He.ga K "MergeRow") (He.fAd K ("SetRow", some "__init__"))
  cm_read : Ya.ClM K "Update" "read"
  x_BadShape : Ue.ExK K (He.ga K "BadShape") (He.fAd K ("BadShape", some "__init__")) "text"
  x_BadPath : Ue.ExK K (He.ga K "BadPath") (He.fAd K ("BadPath", some "__init__")) "path"
  x_BadParameters : Ue.ExK K (He.ga K "BadParameters") (He.fAd K ("BadParameters", some "__init__")) "parameters"
  x_BadRow : Ue.ExK K (He.ga K "BadRow") (He.fAd K ("BadRow", some "__init__")) "at"
  x_BadLine : Ue.ExK K (He.ga K "BadLine") (He.fAd K ("BadLine", some "__init__")) "at"
  p_Shape_is_plain : Vk.PropB K "Shape" "is_plain"
  p_Shape_plains : Vk.PropB K "Shape" "plains"
  p_Update_slots : Vk.PropB K "Update" "slots"
  p_Update_marks : Vk.PropB K "Update" "marks"
  p_Update_sections : Vk.PropB K "Update" "sections"
  k_Shape : Cls K (He.ga K "Shape")
  m_Shape : Mk K (He.ga K "Shape") (He.fAd K ("Shape", some "__init__"))
  n_Shape_text : NoAttr K (He.ga K "Shape") "text"
  n_Shape_tree : NoAttr K (He.ga K "Shape") "tree"
  n_Shape_names : NoAttr K (He.ga K "Shape") "names"
  n_Shape_fields : NoAttr K (He.ga K "Shape") "fields"
  n_Shape_spots : NoAttr K (He.ga K "Shape") "spots"
  h_Shape___getitem__ : Meth K (He.ga K "Shape") "__getitem__" (He.fAd K ("Shape", some "__getitem__"))
  h_Shape___contains__ : Meth K (He.ga K "Shape") "__contains__" (He.fAd K ("Shape", some "__contains__"))
  h_Shape___eq__ : Meth K (He.ga K "Shape") "__eq__" (He.fAd K ("Shape", some "__eq__"))
  k_Update : Cls K (He.ga K "Update")
  m_Update : Mk K (He.ga K "Update") (He.fAd K ("Update", some "__init__"))
  n_Update_shape : NoAttr K (He.ga K "Update") "shape"
  n_Update_parameters : NoAttr K (He.ga K "Update") "parameters"
  n_Update_rows : NoAttr K (He.ga K "Update") "rows"
  n_Update_kinds : NoAttr K (He.ga K "Update") "kinds"
  n_Update_writings : NoAttr K (He.ga K "Update") "writings"
  h_Update___eq__ : Meth K (He.ga K "Update") "__eq__" (He.fAd K ("Update", some "__eq__"))
  h_Update___str__ : Meth K (He.ga K "Update") "__str__" (He.fAd K ("Update", some "__str__"))
  k_SetRow : Cls K (He.ga K "SetRow")
  m_SetRow : Mk K (He.ga K "SetRow") (He.fAd K ("SetRow", some "__init__"))
  n_SetRow_path : NoAttr K (He.ga K "SetRow") "path"
  n_SetRow_source : NoAttr K (He.ga K "SetRow") "source"
  n_SetRow_word : NoAttr K (He.ga K "SetRow") "word"
  k_NewRow : Cls K (He.ga K "NewRow")
  n_NewRow_path : NoAttr K (He.ga K "NewRow") "path"
  n_NewRow_source : NoAttr K (He.ga K "NewRow") "source"
  n_NewRow_word : NoAttr K (He.ga K "NewRow") "word"
  k_EditRow : Cls K (He.ga K "EditRow")
  n_EditRow_path : NoAttr K (He.ga K "EditRow") "path"
  n_EditRow_source : NoAttr K (He.ga K "EditRow") "source"
  n_EditRow_word : NoAttr K (He.ga K "EditRow") "word"
  k_MergeRow : Cls K (He.ga K "MergeRow")
  n_MergeRow_path : NoAttr K (He.ga K "MergeRow") "path"
  n_MergeRow_source : NoAttr K (He.ga K "MergeRow") "source"
  n_MergeRow_word : NoAttr K (He.ga K "MergeRow") "word"
theorem tx_of {K : PySem.W.Frag} {w : World} {h : Heap} {mg : Str → Option Value} (X : K.In h) (G : h.Ns mainGlobals mg) (c : Says w h K) : Tx K mg where
  ValueError := He.free_ok X G (c.x.t.d.fact 60 (f := .free "ValueError") rfl)
  abs := He.free_ok X G (c.x.t.d.fact 61 (f := .free "abs") rfl)
  all := He.free_ok X G (c.x.t.d.fact 62 (f := .free "all") rfl)
  bool := He.free_ok X G (c.x.t.d.fact 63 (f := .free "bool") rfl)
  classmethod := He.free_ok X G (c.x.t.d.fact 64 (f := .free "classmethod") rfl)
  dict := He.free_ok X G (c.x.t.d.fact 65 (f := .free "dict") rfl)
  enumerate := He.free_ok X G (c.x.t.d.fact 66 (f := .free "enumerate") rfl)
  int := He.free_ok X G (c.x.t.d.fact 67 (f := .free "int") rfl)
  isinstance := He.free_ok X G (c.x.t.d.fact 68 (f := .free "isinstance") rfl)
  iter := He.free_ok X G (c.x.t.d.fact 69 (f := .free "iter") rfl)
  len := He.free_ok X G (c.x.t.d.fact 70 (f := .free "len") rfl)
  max := He.free_ok X G (c.x.t.d.fact 71 (f := .free "max") rfl)
  range := He.free_ok X G (c.x.t.d.fact 72 (f := .free "range") rfl)
  str := He.free_ok X G (c.x.t.d.fact 73 (f := .free "str") rfl)
  sum := He.free_ok X G (c.x.t.d.fact 74 (f := .free "sum") rfl)
  super := He.free_ok X G (c.x.t.d.fact 75 (f := .free "super") rfl)
  tuple := He.free_ok X G (c.x.t.d.fact 76 (f := .free "tuple") rfl)
  zip := He.free_ok X G (c.x.t.d.fact 77 (f := .free "zip") rfl)
  c_MOST_DEPTH := He.int_ok X G (c.x.t.d.fact 51 (f := .int "MOST_DEPTH" 3) rfl)
  c_MOST_RECORDS := He.int_ok X G (c.x.t.d.fact 52 (f := .int "MOST_RECORDS" 5) rfl)
  c_MOST_PLAINS := He.int_ok X G (c.x.t.d.fact 53 (f := .int "MOST_PLAINS" 5) rfl)
  c_MOST_FIELDS := He.int_ok X G (c.x.t.d.fact 54 (f := .int "MOST_FIELDS" 3) rfl)
  c_LETTERS := He.str_ok X G (c.x.t.d.fact 59 (f := .str "LETTERS" "abcdefghijklmnopqrstuvwxyz") rfl)
  g_KEPT_WORDS := He.glo_ok X G (c.x.t.d.fact 6 (f := .glo "KEPT_WORDS") rfl)
  t_KEPT_WORDS := fun H => He.tupB_ok (x := "KEPT_WORDS") (vs := [.str "document", .str "update", .str "set", .str "new", .str "edit", .str "merge", .str "then", .str "old", .str "copy"]) (He.ba (He.ba (He.ba (He.ba (He.ba (He.ba (He.ba (He.ba (He.ba (He.ba (He.ba (He.ba (He.ba (He.ba (He.ba (He.ba (He.ba (He.ba (He.ba (He.ba (He.ba (He.ba (He.ba (He.ba (He.ba (He.ba (He.ba (He.ba (He.ba (He.ba (He.ba c.more).2).1).1).1).1).1).1).1).1).1).1).1).1).1).1).1).1).1).1).1).1).1).1).1).1).1).1).1).1).1).1 H
  g_MARKS_writing := He.glo_ok X G (c.x.t.d.fact 16 (f := .glo "MARKS_writing") rfl)
  t_MARKS_writing := fun H => He.tupB_ok (x := "MARKS_writing") (vs := [.str "set", .str "new", .str "edit", .str "merge"]) (He.ba (He.ba (He.ba (He.ba (He.ba (He.ba (He.ba (He.ba (He.ba (He.ba (He.ba (He.ba (He.ba (He.ba (He.ba (He.ba (He.ba (He.ba (He.ba (He.ba (He.ba (He.ba (He.ba (He.ba (He.ba (He.ba (He.ba (He.ba (He.ba (He.ba (He.ba c.more).2).1).1).1).1).1).1).1).1).1).1).1).1).1).1).1).1).1).1).1).1).1).1).1).1).1).1).1).1).1).2 H
  c_MOST_PARAMETERS := He.int_ok X G (c.x.t.d.fact 55 (f := .int "MOST_PARAMETERS" 3) rfl)
  c_MOST_SLOTS := He.int_ok X G (c.x.t.d.fact 56 (f := .int "MOST_SLOTS" 3) rfl)
  c_MOST_ROWS := He.int_ok X G (c.x.t.d.fact 57 (f := .int "MOST_ROWS" 8) rfl)
  c_MOST_THENS := He.int_ok X G (c.x.t.d.fact 58 (f := .int "MOST_THENS" 3) rfl)
  g_MARKS_updates := He.glo_ok X G (c.x.t.d.fact 28 (f := .glo "MARKS_updates") rfl)
  t_MARKS_updates := fun H => He.tupB_ok (x := "MARKS_updates") (vs := [.str "set", .str "new", .str "edit", .str "merge"]) (He.ba (He.ba (He.ba (He.ba (He.ba (He.ba (He.ba (He.ba (He.ba (He.ba (He.ba (He.ba (He.ba (He.ba (He.ba (He.ba (He.ba (He.ba (He.ba (He.ba (He.ba (He.ba (He.ba (He.ba (He.ba (He.ba (He.ba (He.ba (He.ba (He.ba c.more).2).1).1).1).1).1).1).1).1).1).1).1).1).1).1).1).1).1).1).1).1).1).1).1).1).1).1).1).1).2 H
  g_JOINED_WORDS := He.glo_ok X G (c.x.t.d.fact 29 (f := .glo "JOINED_WORDS") rfl)
  t_JOINED_WORDS := fun H => He.tupB_ok (x := "JOINED_WORDS") (vs := [.str "a", .str "b", .str "c"]) (He.ba (He.ba (He.ba (He.ba (He.ba (He.ba (He.ba (He.ba (He.ba (He.ba (He.ba (He.ba (He.ba (He.ba (He.ba (He.ba (He.ba (He.ba (He.ba (He.ba (He.ba (He.ba (He.ba (He.ba (He.ba (He.ba (He.ba (He.ba (He.ba c.more).2).1).1).1).1).1).1).1).1).1).1).1).1).1).1).1).1).1).1).1).1).1).1).1).1).1).1).1).2 H
  k_Shape := He.cls_ok (c.x.t.d.fact 78 (f := .cls "Shape") rfl)
  m_Shape := He.mkr_ok (c.x.t.d.fact 79 (f := .mkr "Shape") rfl)
  n_Shape_text := He.noat_ok (c.x.t.d.fact 80 (f := .noat "Shape" "text") rfl)
  n_Shape_tree := He.noat_ok (c.x.t.d.fact 81 (f := .noat "Shape" "tree") rfl)
  n_Shape_names := He.noat_ok (c.x.t.d.fact 82 (f := .noat "Shape" "names") rfl)
  n_Shape_fields := He.noat_ok (c.x.t.d.fact 83 (f := .noat "Shape" "fields") rfl)
  n_Shape_spots := He.noat_ok (c.x.t.d.fact 84 (f := .noat "Shape" "spots") rfl)
  h_Shape___getitem__ := He.meth_ok (c.x.t.d.fact 85 (f := .meth "Shape" "__getitem__") rfl)
  h_Shape___contains__ := He.meth_ok (c.x.t.d.fact 86 (f := .meth "Shape" "__contains__") rfl)
  h_Shape___eq__ := He.meth_ok (c.x.t.d.fact 87 (f := .meth "Shape" "__eq__") rfl)
  k_Update := He.cls_ok (c.x.t.d.fact 88 (f := .cls "Update") rfl)
  m_Update := He.mkr_ok (c.x.t.d.fact 89 (f := .mkr "Update") rfl)
  n_Update_shape := He.noat_ok (c.x.t.d.fact 90 (f := .noat "Update" "shape") rfl)
  n_Update_parameters := He.noat_ok (c.x.t.d.fact 91 (f := .noat "Update" "parameters") rfl)
  n_Update_rows := He.noat_ok (c.x.t.d.fact 92 (f := .noat "Update" "rows") rfl)
  n_Update_kinds := He.noat_ok (c.x.t.d.fact 93 (f := .noat "Update" "kinds") rfl)
  n_Update_writings := He.noat_ok (c.x.t.d.fact 94 (f := .noat "Update" "writings") rfl)
  h_Update___eq__ := He.meth_ok (c.x.t.d.fact 95 (f := .meth "Update" "__eq__") rfl)
  h_Update___str__ := He.meth_ok (c.x.t.d.fact 96 (f := .meth "Update" "__str__") rfl)
  k_SetRow := He.cls_ok (c.x.t.d.fact 97 (f := .cls "SetRow") rfl)
  m_SetRow := He.mkr_ok (c.x.t.d.fact 98 (f := .mkr "SetRow") rfl)
  n_SetRow_path := He.noat_ok (c.x.t.d.fact 99 (f := .noat "SetRow" "path") rfl)
  n_SetRow_source := He.noat_ok (c.x.t.d.fact 100 (f := .noat "SetRow" "source") rfl)
  n_SetRow_word := He.noat_ok (c.x.t.d.fact 101 (f := .noat "SetRow" "word") rfl)
  k_NewRow := He.cls_ok (c.x.t.d.fact 102 (f := .cls "NewRow") rfl)
  n_NewRow_path := He.noat_ok (c.x.t.d.fact 103 (f := .noat "NewRow" "path") rfl)
  n_NewRow_source := He.noat_ok (c.x.t.d.fact 104 (f := .noat "NewRow" "source") rfl)
  n_NewRow_word := He.noat_ok (c.x.t.d.fact 105 (f := .noat "NewRow" "word") rfl)
  k_EditRow := He.cls_ok (c.x.t.d.fact 106 (f := .cls "EditRow") rfl)
  n_EditRow_path := He.noat_ok (c.x.t.d.fact 107 (f := .noat "EditRow" "path") rfl)
  n_EditRow_source := He.noat_ok (c.x.t.d.fact 108 (f := .noat "EditRow" "source") rfl)
  n_EditRow_word := He.noat_ok (c.x.t.d.fact 109 (f := .noat "EditRow" "word") rfl)
  k_MergeRow := He.cls_ok (c.x.t.d.fact 110 (f := .cls "MergeRow") rfl)
  n_MergeRow_path := He.noat_ok (c.x.t.d.fact 111 (f := .noat "MergeRow" "path") rfl)
  n_MergeRow_source := He.noat_ok (c.x.t.d.fact 112 (f := .noat "MergeRow" "source") rfl)
  n_MergeRow_word := He.noat_ok (c.x.t.d.fact 113 (f := .noat "MergeRow" "word") rfl)
  fi_eq := of_decide_eq_true (He.ba (He.ba (He.ba (He.ba (He.ba (He.ba (He.ba (He.ba (He.ba (He.ba (He.ba (He.ba (He.ba (He.ba (He.ba (He.ba (He.ba (He.ba (He.ba (He.ba (He.ba (He.ba (He.ba (He.ba (He.ba (He.ba (He.ba (He.ba c.more).2).1).1).1).1).1).1).1).1).1).1).1).1).1).1).1).1).1).1).1).1).1).1).1).1).1).1).2
  fi_get := of_decide_eq_true (He.ba (He.ba (He.ba (He.ba (He.ba (He.ba (He.ba (He.ba (He.ba (He.ba (He.ba (He.ba (He.ba (He.ba (He.ba (He.ba (He.ba (He.ba (He.ba (He.ba (He.ba (He.ba (He.ba (He.ba (He.ba (He.ba (He.ba c.more).2).1).1).1).1).1).1).1).1).1).1).1).1).1).1).1).1).1).1).1).1).1).1).1).1).1).2
  fi_con := of_decide_eq_true (He.ba (He.ba (He.ba (He.ba (He.ba (He.ba (He.ba (He.ba (He.ba (He.ba (He.ba (He.ba (He.ba (He.ba (He.ba (He.ba (He.ba (He.ba (He.ba (He.ba (He.ba (He.ba (He.ba (He.ba (He.ba (He.ba c.more).2).1).1).1).1).1).1).1).1).1).1).1).1).1).1).1).1).1).1).1).1).1).1).1).1).2
  fi_ueq := of_decide_eq_true (He.ba (He.ba (He.ba (He.ba (He.ba (He.ba (He.ba (He.ba (He.ba (He.ba (He.ba (He.ba (He.ba (He.ba (He.ba (He.ba (He.ba (He.ba (He.ba (He.ba (He.ba (He.ba (He.ba (He.ba (He.ba c.more).2).1).1).1).1).1).1).1).1).1).1).1).1).1).1).1).1).1).1).1).1).1).1).1).2
  fi_ustr := of_decide_eq_true (He.ba (He.ba (He.ba (He.ba (He.ba (He.ba (He.ba (He.ba (He.ba (He.ba (He.ba (He.ba (He.ba (He.ba (He.ba (He.ba (He.ba (He.ba (He.ba (He.ba (He.ba (He.ba (He.ba (He.ba c.more).2).1).1).1).1).1).1).1).1).1).1).1).1).1).1).1).1).1).1).1).1).1).1).2
  nf := Uo.nfB_ok (He.ba (He.ba (He.ba (He.ba (He.ba (He.ba (He.ba (He.ba (He.ba (He.ba (He.ba (He.ba (He.ba (He.ba (He.ba (He.ba (He.ba (He.ba (He.ba (He.ba (He.ba (He.ba (He.ba c.more).2).1).1).1).1).1).1).1).1).1).1).1).1).1).1).1).1).1).1).1).1).1).2
  nn := Uo.noNeB_ok (He.ba (He.ba (He.ba (He.ba (He.ba (He.ba (He.ba (He.ba (He.ba (He.ba (He.ba (He.ba (He.ba (He.ba (He.ba (He.ba (He.ba (He.ba (He.ba (He.ba (He.ba (He.ba c.more).2).1).1).1).1).1).1).1).1).1).1).1).1).1).1).1).1).1).1).1).1).2
  ty := Ve.tyCB_ok (He.ba (He.ba (He.ba (He.ba (He.ba (He.ba (He.ba (He.ba (He.ba (He.ba (He.ba (He.ba (He.ba (He.ba (He.ba (He.ba (He.ba (He.ba (He.ba (He.ba (He.ba c.more).2).1).1).1).1).1).1).1).1).1).1).1).1).1).1).1).1).1).1).1).2
  nfU := Uo.nfB_ok (He.ba (He.ba (He.ba (He.ba (He.ba (He.ba (He.ba (He.ba (He.ba (He.ba (He.ba (He.ba (He.ba (He.ba (He.ba (He.ba (He.ba (He.ba (He.ba (He.ba c.more).2).1).1).1).1).1).1).1).1).1).1).1).1).1).1).1).1).1).1).2
  nnU := Uo.noNeB_ok (He.ba (He.ba (He.ba (He.ba (He.ba (He.ba (He.ba (He.ba (He.ba (He.ba (He.ba (He.ba (He.ba (He.ba (He.ba (He.ba (He.ba (He.ba (He.ba c.more).2).1).1).1).1).1).1).1).1).1).1).1).1).1).1).1).1).1).2
  tyU := Ve.tyCB_ok (He.ba (He.ba (He.ba (He.ba (He.ba (He.ba (He.ba (He.ba (He.ba (He.ba (He.ba (He.ba (He.ba (He.ba (He.ba (He.ba (He.ba (He.ba c.more).2).1).1).1).1).1).1).1).1).1).1).1).1).1).1).1).1).2
  ku_str := of_decide_eq_true (He.ba (He.ba (He.ba (He.ba (He.ba (He.ba (He.ba (He.ba (He.ba (He.ba (He.ba (He.ba (He.ba (He.ba (He.ba (He.ba (He.ba c.more).2).1).1).1).1).1).1).1).1).1).1).1).1).1).1).1).2
  ku_NoneType := of_decide_eq_true (He.ba (He.ba (He.ba (He.ba (He.ba (He.ba (He.ba (He.ba (He.ba (He.ba (He.ba (He.ba (He.ba (He.ba (He.ba (He.ba c.more).2).1).1).1).1).1).1).1).1).1).1).1).1).1).1).2
  m_NewRow := Ya.mkB_ok (He.ba (He.ba (He.ba (He.ba (He.ba (He.ba (He.ba (He.ba (He.ba (He.ba (He.ba (He.ba (He.ba (He.ba (He.ba c.more).2).1).1).1).1).1).1).1).1).1).1).1).1).1).2
  m_EditRow := Ya.mkB_ok (He.ba (He.ba (He.ba (He.ba (He.ba (He.ba (He.ba (He.ba (He.ba (He.ba (He.ba (He.ba (He.ba (He.ba c.more).2).1).1).1).1).1).1).1).1).1).1).1).1).2
  m_MergeRow := Ya.mkB_ok (He.ba (He.ba (He.ba (He.ba (He.ba (He.ba (He.ba (He.ba (He.ba (He.ba (He.ba (He.ba (He.ba c.more).2).1).1).1).1).1).1).1).1).1).1).1).2
  cm_read := Ya.clmB_ok (He.ba (He.ba (He.ba (He.ba (He.ba (He.ba (He.ba (He.ba (He.ba (He.ba (He.ba (He.ba c.more).2).1).1).1).1).1).1).1).1).1).1).2
  x_BadShape := Ue.exB_ok (He.ba (He.ba (He.ba (He.ba (He.ba (He.ba (He.ba (He.ba (He.ba (He.ba (He.ba c.more).2).1).1).1).1).1).1).1).1).1).2
  x_BadPath := Ue.exB_ok (He.ba (He.ba (He.ba (He.ba (He.ba (He.ba (He.ba (He.ba (He.ba (He.ba c.more).2).1).1).1).1).1).1).1).1).2
  x_BadParameters := Ue.exB_ok (He.ba (He.ba (He.ba (He.ba (He.ba (He.ba (He.ba (He.ba (He.ba c.more).2).1).1).1).1).1).1).1).2
  x_BadRow := Ue.exB_ok (He.ba (He.ba (He.ba (He.ba (He.ba (He.ba (He.ba (He.ba c.more).2).1).1).1).1).1).1).2
  x_BadLine := Ue.exB_ok (He.ba (He.ba (He.ba (He.ba (He.ba (He.ba (He.ba c.more).2).1).1).1).1).1).2
  p_Shape_is_plain := Vk.propB_ok (He.ba (He.ba (He.ba (He.ba (He.ba (He.ba c.more).2).1).1).1).1).2
  p_Shape_plains := Vk.propB_ok (He.ba (He.ba (He.ba (He.ba (He.ba c.more).2).1).1).1).2
  p_Update_slots := Vk.propB_ok (He.ba (He.ba (He.ba (He.ba c.more).2).1).1).2
  p_Update_marks := Vk.propB_ok (He.ba (He.ba (He.ba c.more).2).1).2
  p_Update_sections := Vk.propB_ok (He.ba (He.ba c.more).2).2
  g_UnseenwritesError := He.glo_ok X G (c.x.t.d.fact 0 (f := .glo "UnseenwritesError") rfl)
  g_BadShape := He.glo_ok X G (c.x.t.d.fact 1 (f := .glo "BadShape") rfl)
  g_BadPath := He.glo_ok X G (c.x.t.d.fact 2 (f := .glo "BadPath") rfl)
  g_BadParameters := He.glo_ok X G (c.x.t.d.fact 3 (f := .glo "BadParameters") rfl)
  g_BadRow := He.glo_ok X G (c.x.t.d.fact 4 (f := .glo "BadRow") rfl)
  g_BadLine := He.glo_ok X G (c.x.t.d.fact 5 (f := .glo "BadLine") rfl)
  g_is_word := He.glo_ok X G (c.x.t.d.fact 7 (f := .glo "is_word") rfl)
  g_records_of := He.glo_ok X G (c.x.t.d.fact 8 (f := .glo "records_of") rfl)
  g_plains_of := He.glo_ok X G (c.x.t.d.fact 9 (f := .glo "plains_of") rfl)
  g_text_of := He.glo_ok X G (c.x.t.d.fact 10 (f := .glo "text_of") rfl)
  g_scan_word := He.glo_ok X G (c.x.t.d.fact 11 (f := .glo "scan_word") rfl)
  g_scan_shape := He.glo_ok X G (c.x.t.d.fact 12 (f := .glo "scan_shape") rfl)
  g_is_bounded := He.glo_ok X G (c.x.t.d.fact 13 (f := .glo "is_bounded") rfl)
  g_tree_of := He.glo_ok X G (c.x.t.d.fact 14 (f := .glo "tree_of") rfl)
  g_Shape := He.glo_ok X G (c.x.t.d.fact 15 (f := .glo "Shape") rfl)
  g_SetRow := He.glo_ok X G (c.x.t.d.fact 17 (f := .glo "SetRow") rfl)
  g_NewRow := He.glo_ok X G (c.x.t.d.fact 18 (f := .glo "NewRow") rfl)
  g_EditRow := He.glo_ok X G (c.x.t.d.fact 19 (f := .glo "EditRow") rfl)
  g_MergeRow := He.glo_ok X G (c.x.t.d.fact 20 (f := .glo "MergeRow") rfl)
  g_made_row := He.glo_ok X G (c.x.t.d.fact 21 (f := .glo "made_row") rfl)
  g_term_of := He.glo_ok X G (c.x.t.d.fact 22 (f := .glo "term_of") rfl)
  g_read_row := He.glo_ok X G (c.x.t.d.fact 23 (f := .glo "read_row") rfl)
  g_fits_behind := He.glo_ok X G (c.x.t.d.fact 24 (f := .glo "fits_behind") rfl)
  g_are_parameters := He.glo_ok X G (c.x.t.d.fact 25 (f := .glo "are_parameters") rfl)
  g_read_parameters := He.glo_ok X G (c.x.t.d.fact 26 (f := .glo "read_parameters") rfl)
  g_read_head := He.glo_ok X G (c.x.t.d.fact 27 (f := .glo "read_head") rfl)
  g_split_rows := He.glo_ok X G (c.x.t.d.fact 30 (f := .glo "split_rows") rfl)
  g_Update := He.glo_ok X G (c.x.t.d.fact 31 (f := .glo "Update") rfl)
  g__law_start := He.glo_ok X G (c.x.t.d.fact 32 (f := .glo "_law_start") rfl)
  g__law_draw := He.glo_ok X G (c.x.t.d.fact 33 (f := .glo "_law_draw") rfl)
  g__law_of := He.glo_ok X G (c.x.t.d.fact 34 (f := .glo "_law_of") rfl)
  g__law_word := He.glo_ok X G (c.x.t.d.fact 35 (f := .glo "_law_word") rfl)
  g__law_records := He.glo_ok X G (c.x.t.d.fact 36 (f := .glo "_law_records") rfl)
  g__law_plains := He.glo_ok X G (c.x.t.d.fact 37 (f := .glo "_law_plains") rfl)
  g__law_depth := He.glo_ok X G (c.x.t.d.fact 38 (f := .glo "_law_depth") rfl)
  g__law_text := He.glo_ok X G (c.x.t.d.fact 39 (f := .glo "_law_text") rfl)
  g__law_tree := He.glo_ok X G (c.x.t.d.fact 40 (f := .glo "_law_tree") rfl)
  g__law_paths := He.glo_ok X G (c.x.t.d.fact 41 (f := .glo "_law_paths") rfl)
  g__law_made_shape := He.glo_ok X G (c.x.t.d.fact 42 (f := .glo "_law_made_shape") rfl)
  g__law_parameters := He.glo_ok X G (c.x.t.d.fact 43 (f := .glo "_law_parameters") rfl)
  g__law_row := He.glo_ok X G (c.x.t.d.fact 44 (f := .glo "_law_row") rfl)
  g__law_row_text := He.glo_ok X G (c.x.t.d.fact 45 (f := .glo "_law_row_text") rfl)
  g__law_rows := He.glo_ok X G (c.x.t.d.fact 46 (f := .glo "_law_rows") rfl)
  g__law_update := He.glo_ok X G (c.x.t.d.fact 47 (f := .glo "_law_update") rfl)
  g__law_sections := He.glo_ok X G (c.x.t.d.fact 48 (f := .glo "_law_sections") rfl)
  g__law_right := He.glo_ok X G (c.x.t.d.fact 49 (f := .glo "_law_right") rfl)
  g_law := He.glo_ok X G (c.x.t.d.fact 50 (f := .glo "law") rfl)
/-- a def of the top as it stands -/
abbrev Df (K : PySem.W.Frag) (at_ : Str × Option Str) (x q : Str) (st : Stmt) (dvs : List V) (fd : FuncData) : Prop := FunD K x q (defArgs st) (defBody st) (defScope st) dvs [] (He.fAd K at_) fd
theorem df_BadShape___init__ {K : PySem.W.Frag} {w : World} {h : Heap} (c : Says w h K) : ∃ fd, Df K ("BadShape", some "__init__") "__init__" "BadShape.__init__" s_BadShape___init__ [] fd := c.x.t.d.def_ 0 (d := dd ("BadShape", some "__init__") "__init__" "BadShape.__init__" s_BadShape___init__ []) rfl
theorem df_BadPath___init__ {K : PySem.W.Frag} {w : World} {h : Heap} (c : Says w h K) : ∃ fd, Df K ("BadPath", some "__init__") "__init__" "BadPath.__init__" s_BadPath___init__ [] fd := c.x.t.d.def_ 1 (d := dd ("BadPath", some "__init__") "__init__" "BadPath.__init__" s_BadPath___init__ []) rfl
theorem df_BadParameters___init__ {K : PySem.W.Frag} {w : World} {h : Heap} (c : Says w h K) : ∃ fd, Df K ("BadParameters", some "__init__") "__init__" "BadParameters.__init__" s_BadParameters___init__ [] fd := c.x.t.d.def_ 2 (d := dd ("BadParameters", some "__init__") "__init__" "BadParameters.__init__" s_BadParameters___init__ []) rfl
theorem df_BadRow___init__ {K : PySem.W.Frag} {w : World} {h : Heap} (c : Says w h K) : ∃ fd, Df K ("BadRow", some "__init__") "__init__" "BadRow.__init__" s_BadRow___init__ [] fd := c.x.t.d.def_ 3 (d := dd ("BadRow", some "__init__") "__init__" "BadRow.__init__" s_BadRow___init__ []) rfl
theorem df_BadLine___init__ {K : PySem.W.Frag} {w : World} {h : Heap} (c : Says w h K) : ∃ fd, Df K ("BadLine", some "__init__") "__init__" "BadLine.__init__" s_BadLine___init__ [] fd := c.x.t.d.def_ 4 (d := dd ("BadLine", some "__init__") "__init__" "BadLine.__init__" s_BadLine___init__ []) rfl
theorem df_is_word {K : PySem.W.Frag} {w : World} {h : Heap} (c : Says w h K) : ∃ fd, Df K ("is_word", none) "is_word" "is_word" s_is_word [] fd := c.x.t.d.def_ 5 (d := dd ("is_word", none) "is_word" "is_word" s_is_word []) rfl
theorem df_records_of {K : PySem.W.Frag} {w : World} {h : Heap} (c : Says w h K) : ∃ fd, Df K ("records_of", none) "records_of" "records_of" s_records_of [] fd := c.x.t.d.def_ 6 (d := dd ("records_of", none) "records_of" "records_of" s_records_of []) rfl
theorem df_plains_of {K : PySem.W.Frag} {w : World} {h : Heap} (c : Says w h K) : ∃ fd, Df K ("plains_of", none) "plains_of" "plains_of" s_plains_of [] fd := c.x.t.d.def_ 7 (d := dd ("plains_of", none) "plains_of" "plains_of" s_plains_of []) rfl
theorem df_text_of {K : PySem.W.Frag} {w : World} {h : Heap} (c : Says w h K) : ∃ fd, Df K ("text_of", none) "text_of" "text_of" s_text_of [] fd := c.x.t.d.def_ 8 (d := dd ("text_of", none) "text_of" "text_of" s_text_of []) rfl
theorem df_scan_word {K : PySem.W.Frag} {w : World} {h : Heap} (c : Says w h K) : ∃ fd, Df K ("scan_word", none) "scan_word" "scan_word" s_scan_word [] fd := c.x.t.d.def_ 9 (d := dd ("scan_word", none) "scan_word" "scan_word" s_scan_word []) rfl
theorem df_scan_shape {K : PySem.W.Frag} {w : World} {h : Heap} (c : Says w h K) : ∃ fd, Df K ("scan_shape", none) "scan_shape" "scan_shape" s_scan_shape [.int 3] fd := c.x.t.d.def_ 10 (d := dd ("scan_shape", none) "scan_shape" "scan_shape" s_scan_shape [.int 3]) rfl
theorem df_is_bounded {K : PySem.W.Frag} {w : World} {h : Heap} (c : Says w h K) : ∃ fd, Df K ("is_bounded", none) "is_bounded" "is_bounded" s_is_bounded [] fd := c.x.t.d.def_ 11 (d := dd ("is_bounded", none) "is_bounded" "is_bounded" s_is_bounded []) rfl
theorem df_tree_of {K : PySem.W.Frag} {w : World} {h : Heap} (c : Says w h K) : ∃ fd, Df K ("tree_of", none) "tree_of" "tree_of" s_tree_of [] fd := c.x.t.d.def_ 12 (d := dd ("tree_of", none) "tree_of" "tree_of" s_tree_of []) rfl
theorem df_Shape___init__ {K : PySem.W.Frag} {w : World} {h : Heap} (c : Says w h K) : ∃ fd, Df K ("Shape", some "__init__") "__init__" "Shape.__init__" s_Shape___init__ [] fd := c.x.t.d.def_ 13 (d := dd ("Shape", some "__init__") "__init__" "Shape.__init__" s_Shape___init__ []) rfl
theorem df_Shape___getitem__ {K : PySem.W.Frag} {w : World} {h : Heap} (c : Says w h K) : ∃ fd, Df K ("Shape", some "__getitem__") "__getitem__" "Shape.__getitem__" s_Shape___getitem__ [] fd := c.x.t.d.def_ 14 (d := dd ("Shape", some "__getitem__") "__getitem__" "Shape.__getitem__" s_Shape___getitem__ []) rfl
theorem df_Shape___contains__ {K : PySem.W.Frag} {w : World} {h : Heap} (c : Says w h K) : ∃ fd, Df K ("Shape", some "__contains__") "__contains__" "Shape.__contains__" s_Shape___contains__ [] fd := c.x.t.d.def_ 15 (d := dd ("Shape", some "__contains__") "__contains__" "Shape.__contains__" s_Shape___contains__ []) rfl
theorem df_Shape___eq__ {K : PySem.W.Frag} {w : World} {h : Heap} (c : Says w h K) : ∃ fd, Df K ("Shape", some "__eq__") "__eq__" "Shape.__eq__" s_Shape___eq__ [] fd := c.x.t.d.def_ 16 (d := dd ("Shape", some "__eq__") "__eq__" "Shape.__eq__" s_Shape___eq__ []) rfl
theorem df_SetRow___init__ {K : PySem.W.Frag} {w : World} {h : Heap} (c : Says w h K) : ∃ fd, Df K ("SetRow", some "__init__") "__init__" "SetRow.__init__" s_SetRow___init__ [] fd := c.x.t.d.def_ 17 (d := dd ("SetRow", some "__init__") "__init__" "SetRow.__init__" s_SetRow___init__ []) rfl
theorem df_made_row {K : PySem.W.Frag} {w : World} {h : Heap} (c : Says w h K) : ∃ fd, Df K ("made_row", none) "made_row" "made_row" s_made_row [] fd := c.x.t.d.def_ 18 (d := dd ("made_row", none) "made_row" "made_row" s_made_row []) rfl
theorem df_term_of {K : PySem.W.Frag} {w : World} {h : Heap} (c : Says w h K) : ∃ fd, Df K ("term_of", none) "term_of" "term_of" s_term_of [] fd := c.x.t.d.def_ 19 (d := dd ("term_of", none) "term_of" "term_of" s_term_of []) rfl
theorem df_read_row {K : PySem.W.Frag} {w : World} {h : Heap} (c : Says w h K) : ∃ fd, Df K ("read_row", none) "read_row" "read_row" s_read_row [] fd := c.x.t.d.def_ 20 (d := dd ("read_row", none) "read_row" "read_row" s_read_row []) rfl
theorem df_fits_behind {K : PySem.W.Frag} {w : World} {h : Heap} (c : Says w h K) : ∃ fd, Df K ("fits_behind", none) "fits_behind" "fits_behind" s_fits_behind [] fd := c.x.t.d.def_ 21 (d := dd ("fits_behind", none) "fits_behind" "fits_behind" s_fits_behind []) rfl
theorem df_are_parameters {K : PySem.W.Frag} {w : World} {h : Heap} (c : Says w h K) : ∃ fd, Df K ("are_parameters", none) "are_parameters" "are_parameters" s_are_parameters [] fd := c.x.t.d.def_ 22 (d := dd ("are_parameters", none) "are_parameters" "are_parameters" s_are_parameters []) rfl
theorem df_read_parameters {K : PySem.W.Frag} {w : World} {h : Heap} (c : Says w h K) : ∃ fd, Df K ("read_parameters", none) "read_parameters" "read_parameters" s_read_parameters [] fd := c.x.t.d.def_ 23 (d := dd ("read_parameters", none) "read_parameters" "read_parameters" s_read_parameters []) rfl
theorem df_read_head {K : PySem.W.Frag} {w : World} {h : Heap} (c : Says w h K) : ∃ fd, Df K ("read_head", none) "read_head" "read_head" s_read_head [] fd := c.x.t.d.def_ 24 (d := dd ("read_head", none) "read_head" "read_head" s_read_head []) rfl
theorem df_split_rows {K : PySem.W.Frag} {w : World} {h : Heap} (c : Says w h K) : ∃ fd, Df K ("split_rows", none) "split_rows" "split_rows" s_split_rows [] fd := c.x.t.d.def_ 25 (d := dd ("split_rows", none) "split_rows" "split_rows" s_split_rows []) rfl
theorem df_Update___init__ {K : PySem.W.Frag} {w : World} {h : Heap} (c : Says w h K) : ∃ fd, Df K ("Update", some "__init__") "__init__" "Update.__init__" s_Update___init__ [] fd := c.x.t.d.def_ 26 (d := dd ("Update", some "__init__") "__init__" "Update.__init__" s_Update___init__ []) rfl
theorem df_Update___eq__ {K : PySem.W.Frag} {w : World} {h : Heap} (c : Says w h K) : ∃ fd, Df K ("Update", some "__eq__") "__eq__" "Update.__eq__" s_Update___eq__ [] fd := c.x.t.d.def_ 27 (d := dd ("Update", some "__eq__") "__eq__" "Update.__eq__" s_Update___eq__ []) rfl
theorem df_Update___str__ {K : PySem.W.Frag} {w : World} {h : Heap} (c : Says w h K) : ∃ fd, Df K ("Update", some "__str__") "__str__" "Update.__str__" s_Update___str__ [] fd := c.x.t.d.def_ 28 (d := dd ("Update", some "__str__") "__str__" "Update.__str__" s_Update___str__ []) rfl
theorem df_law_start {K : PySem.W.Frag} {w : World} {h : Heap} (c : Says w h K) : ∃ fd, Df K ("_law_start", none) "_law_start" "_law_start" s_law_start [] fd := c.x.t.d.def_ 29 (d := dd ("_law_start", none) "_law_start" "_law_start" s_law_start []) rfl
theorem df_law_draw {K : PySem.W.Frag} {w : World} {h : Heap} (c : Says w h K) : ∃ fd, Df K ("_law_draw", none) "_law_draw" "_law_draw" s_law_draw [] fd := c.x.t.d.def_ 30 (d := dd ("_law_draw", none) "_law_draw" "_law_draw" s_law_draw []) rfl
theorem df_law_of {K : PySem.W.Frag} {w : World} {h : Heap} (c : Says w h K) : ∃ fd, Df K ("_law_of", none) "_law_of" "_law_of" s_law_of [] fd := c.x.t.d.def_ 31 (d := dd ("_law_of", none) "_law_of" "_law_of" s_law_of []) rfl
theorem df_law_word {K : PySem.W.Frag} {w : World} {h : Heap} (c : Says w h K) : ∃ fd, Df K ("_law_word", none) "_law_word" "_law_word" s_law_word [] fd := c.x.t.d.def_ 32 (d := dd ("_law_word", none) "_law_word" "_law_word" s_law_word []) rfl
theorem df_law_records {K : PySem.W.Frag} {w : World} {h : Heap} (c : Says w h K) : ∃ fd, Df K ("_law_records", none) "_law_records" "_law_records" s_law_records [] fd := c.x.t.d.def_ 33 (d := dd ("_law_records", none) "_law_records" "_law_records" s_law_records []) rfl
theorem df_law_plains {K : PySem.W.Frag} {w : World} {h : Heap} (c : Says w h K) : ∃ fd, Df K ("_law_plains", none) "_law_plains" "_law_plains" s_law_plains [] fd := c.x.t.d.def_ 34 (d := dd ("_law_plains", none) "_law_plains" "_law_plains" s_law_plains []) rfl
theorem df_law_depth {K : PySem.W.Frag} {w : World} {h : Heap} (c : Says w h K) : ∃ fd, Df K ("_law_depth", none) "_law_depth" "_law_depth" s_law_depth [] fd := c.x.t.d.def_ 35 (d := dd ("_law_depth", none) "_law_depth" "_law_depth" s_law_depth []) rfl
theorem df_law_text {K : PySem.W.Frag} {w : World} {h : Heap} (c : Says w h K) : ∃ fd, Df K ("_law_text", none) "_law_text" "_law_text" s_law_text [] fd := c.x.t.d.def_ 36 (d := dd ("_law_text", none) "_law_text" "_law_text" s_law_text []) rfl
theorem df_law_tree {K : PySem.W.Frag} {w : World} {h : Heap} (c : Says w h K) : ∃ fd, Df K ("_law_tree", none) "_law_tree" "_law_tree" s_law_tree [] fd := c.x.t.d.def_ 37 (d := dd ("_law_tree", none) "_law_tree" "_law_tree" s_law_tree []) rfl
theorem df_law_paths {K : PySem.W.Frag} {w : World} {h : Heap} (c : Says w h K) : ∃ fd, Df K ("_law_paths", none) "_law_paths" "_law_paths" s_law_paths [] fd := c.x.t.d.def_ 38 (d := dd ("_law_paths", none) "_law_paths" "_law_paths" s_law_paths []) rfl
theorem df_law_made_shape {K : PySem.W.Frag} {w : World} {h : Heap} (c : Says w h K) : ∃ fd, Df K ("_law_made_shape", none) "_law_made_shape" "_law_made_shape" s_law_made_shape [] fd := c.x.t.d.def_ 39 (d := dd ("_law_made_shape", none) "_law_made_shape" "_law_made_shape" s_law_made_shape []) rfl
theorem df_law_parameters {K : PySem.W.Frag} {w : World} {h : Heap} (c : Says w h K) : ∃ fd, Df K ("_law_parameters", none) "_law_parameters" "_law_parameters" s_law_parameters [] fd := c.x.t.d.def_ 40 (d := dd ("_law_parameters", none) "_law_parameters" "_law_parameters" s_law_parameters []) rfl
theorem df_law_row {K : PySem.W.Frag} {w : World} {h : Heap} (c : Says w h K) : ∃ fd, Df K ("_law_row", none) "_law_row" "_law_row" s_law_row [] fd := c.x.t.d.def_ 41 (d := dd ("_law_row", none) "_law_row" "_law_row" s_law_row []) rfl
theorem df_law_row_text {K : PySem.W.Frag} {w : World} {h : Heap} (c : Says w h K) : ∃ fd, Df K ("_law_row_text", none) "_law_row_text" "_law_row_text" s_law_row_text [] fd := c.x.t.d.def_ 42 (d := dd ("_law_row_text", none) "_law_row_text" "_law_row_text" s_law_row_text []) rfl
theorem df_law_rows {K : PySem.W.Frag} {w : World} {h : Heap} (c : Says w h K) : ∃ fd, Df K ("_law_rows", none) "_law_rows" "_law_rows" s_law_rows [] fd := c.x.t.d.def_ 43 (d := dd ("_law_rows", none) "_law_rows" "_law_rows" s_law_rows []) rfl
theorem df_law_update {K : PySem.W.Frag} {w : World} {h : Heap} (c : Says w h K) : ∃ fd, Df K ("_law_update", none) "_law_update" "_law_update" s_law_update [] fd := c.x.t.d.def_ 44 (d := dd ("_law_update", none) "_law_update" "_law_update" s_law_update []) rfl
theorem df_law_sections {K : PySem.W.Frag} {w : World} {h : Heap} (c : Says w h K) : ∃ fd, Df K ("_law_sections", none) "_law_sections" "_law_sections" s_law_sections [] fd := c.x.t.d.def_ 45 (d := dd ("_law_sections", none) "_law_sections" "_law_sections" s_law_sections []) rfl
theorem df_law_right {K : PySem.W.Frag} {w : World} {h : Heap} (c : Says w h K) : ∃ fd, Df K ("_law_right", none) "_law_right" "_law_right" s_law_right [] fd := c.x.t.d.def_ 46 (d := dd ("_law_right", none) "_law_right" "_law_right" s_law_right []) rfl
theorem df_law {K : PySem.W.Frag} {w : World} {h : Heap} (c : Says w h K) : ∃ fd, Df K ("law", none) "law" "law" s_law [] fd := c.x.t.d.def_ 47 (d := dd ("law", none) "law" "law" s_law []) rfl
theorem df_Shape_is_plain {K : PySem.W.Frag} {w : World} {h : Heap} (c : Says w h K) : ∃ fd, FunD K "is_plain" "Shape.is_plain" (defArgs s_Shape_is_plain) (defBody s_Shape_is_plain) (defScope s_Shape_is_plain) [] [] (Vk.gAd K "Shape" "is_plain") fd := c.get 0 (d := pd "Shape" "is_plain" "Shape.is_plain" s_Shape_is_plain) rfl
theorem df_Shape_plains {K : PySem.W.Frag} {w : World} {h : Heap} (c : Says w h K) : ∃ fd, FunD K "plains" "Shape.plains" (defArgs s_Shape_plains) (defBody s_Shape_plains) (defScope s_Shape_plains) [] [] (Vk.gAd K "Shape" "plains") fd := c.get 1 (d := pd "Shape" "plains" "Shape.plains" s_Shape_plains) rfl
theorem df_Update_read {K : PySem.W.Frag} {w : World} {h : Heap} (c : Says w h K) : ∃ fd, FunD K "read" "Update.read" (defArgs s_Update_read) (defBody s_Update_read) (defScope s_Update_read) [] [] (Ya.cAd K "Update" "read") fd := c.get 2 (d := pc "Update" "read" "Update.read" s_Update_read) rfl
theorem df_Update_slots {K : PySem.W.Frag} {w : World} {h : Heap} (c : Says w h K) : ∃ fd, FunD K "slots" "Update.slots" (defArgs s_Update_slots) (defBody s_Update_slots) (defScope s_Update_slots) [] [] (Vk.gAd K "Update" "slots") fd := c.get 3 (d := pd "Update" "slots" "Update.slots" s_Update_slots) rfl
theorem df_Update_marks {K : PySem.W.Frag} {w : World} {h : Heap} (c : Says w h K) : ∃ fd, FunD K "marks" "Update.marks" (defArgs s_Update_marks) (defBody s_Update_marks) (defScope s_Update_marks) [] [] (Vk.gAd K "Update" "marks") fd := c.get 4 (d := pd "Update" "marks" "Update.marks" s_Update_marks) rfl
theorem df_Update_sections {K : PySem.W.Frag} {w : World} {h : Heap} (c : Says w h K) : ∃ fd, FunD K "sections" "Update.sections" (defArgs s_Update_sections) (defBody s_Update_sections) (defScope s_Update_sections) [] [] (Vk.gAd K "Update" "sections") fd := c.get 5 (d := pd "Update" "sections" "Update.sections" s_Update_sections) rfl
end Lx

namespace Lx
open PySem PySem.Spec PyProof.Rows L2 Ub
theorem run_look (w : World) : ∀ os, (Ux.EndAt R 20000 w os).map (Ux.lookAt R w) = some true := by
  intro os
  kernel_rfl
theorem run_seen (w : World) : ∀ os, (Ux.EndAt R 20000 w os).map (Ux.seenAt R (PySem.W.view R.prog [82]) loose) = some (Ux.goodAt (PySem.W.view R.prog [82]) loose) := by
  intro os
  kernel_rfl
theorem run_ex (w : World) : ∀ os, (Ux.EndAt R 20000 w os).map (fun s => (Vk.exP ex pl (He.frT (HandSHeadRun.getT s) asL), Vk.fnP pl (He.frT (HandSHeadRun.getT s) asL))) = some (true, pl.map He5.DefA.val) := by
  intro os
  kernel_rfl
theorem run_obs0 (w : World) : ∀ os, (Ux.EndAt R 20000 w os).map (fun s => He.obsD fa0 fn0 (He.frT (HandSHeadRun.getT s) asL)) = some (He.valD fn0) := by
  intro os
  kernel_rfl
theorem run_obs1 (w : World) : ∀ os, (Ux.EndAt R 20000 w os).map (fun s => He.obsD fa1 fn1 (He.frT (HandSHeadRun.getT s) asL)) = some (He.valD fn1) := by
  intro os
  kernel_rfl
theorem run (w : World) : HandSHeadRun.RunEq R (PySem.W.view R.prog [82]) hk ob 20000 loose w := Ux.run_of (run_look w) (run_seen w) (Vk.obsL_of (Vk.obsD_app (run_obs0 w) (run_obs1 w)) (run_ex w))
end Lx

namespace Up
open PySem PySem.Spec PyProof.Rows L2 Ub Ur Ug Ue
/-! ### drawn trees -/
theorem fineF_of {fine : Tr → Prop} : ∀ (l : List (Str × Tr)) (n : Nat) (known : List Str), l ≠ [] → l.length ≤ n → (∀ m ∈ l, fine m.2 ∧ isWord m.1 = true ∧ m.1 ∉ known) → (l.map (·.1)).Nodup → FineF fine n known (Tr.ofFields l)
  | [], _, _, h, _, _, _ => absurd rfl h
  | _ :: _, 0, _, _, h, _, _ => by simp at h
  | (w, t) :: l, n + 1, known, _, hl, hm, hn => by
    obtain ⟨h1, h2, h3⟩ := hm (w, t) List.mem_cons_self
    rw [List.map_cons, List.nodup_cons] at hn
    refine ⟨h2, h3, h1, ?_⟩
    cases l with
    | nil => exact .inl rfl
    | cons m l =>
      refine .inr (fineF_of (m :: l) n (known ++ [w]) (by simp) (by simp at hl ⊢; omega) (fun y hy => ?_) hn.2)
      obtain ⟨g1, g2, g3⟩ := hm y (List.mem_cons_of_mem _ hy)
      refine ⟨g1, g2, fun z => ?_⟩
      rcases List.mem_append.mp z with z | z
      · exact g3 z
      · have e : y.1 = w := by simpa using z
        exact hn.1 (List.mem_map.mpr ⟨y, hy, e⟩)
theorem fineF_mono' {p q : Tr → Prop} : ∀ {n : Nat} {kn : List Str} {t : Tr}, (∀ m ∈ t.fields, p m.2 → q m.2) → FineF p n kn t → FineF q n kn t
  | 0, _, _, _, hf => hf.elim
  | _ + 1, _, .nil, _, hf => hf.elim
  | n + 1, kn, .cons w t r, h, ⟨h1, h2, h3, h4⟩ => ⟨h1, h2, h (w, t) (List.mem_cons_self ..) h3, h4.imp (fun z => z) fun z => fineF_mono' (fun m hm => h m (List.mem_cons_of_mem _ hm)) z⟩
theorem depth0 {t : Tr} (h : t.depth = 0) : t = .nil := by
  cases t with
  | nil => rfl
  | cons w t r =>
    exfalso
    have : (Tr.cons w t r).depth = 1 + (Tr.cons w t r).sdep := rfl
    omega
theorem fine_down : ∀ (m n : Nat) (t : Tr), Fine n t → t.depth ≤ m → Fine m t
  | 0, n, t, _, hd => depth0 (by omega)
  | m + 1, 0, t, h, _ => .inl h
  | m + 1, n + 1, t, h, hd => by
    rcases h with h | h
    · exact .inl h
    · exact .inr (fineF_mono' (fun y hy hf => fine_down m n y.2 hf (by have := Tr.depth_lt hy; omega)) h)
theorem fine_up {m n : Nat} {t : Tr} (h : Fine m t) (hm : m ≤ n) : Fine n t := fine_down n m t h (Nat.le_trans (fine_has m t h).1 hm)
def Kn (N : List Addr) (H H' : Hp) : Prop := ∀ b o, H b = some o → b ∉ N → H' b = some o
theorem Kn.refl {N : List Addr} (H : Hp) : Kn N H H := fun _ _ h _ => h
theorem Kn.trans {N : List Addr} {H H1 H2 : Hp} (a : Kn N H H1) (b : Kn N H1 H2) : Kn N H H2 := fun c o h n => b c o (a c o h n) n
theorem Kn.of {N : List Addr} {H H1 : Hp} (a : Same H H1) : Kn N H H1 := fun c o h _ => a c o h
theorem Kn.kp {N : List Addr} {st g l : Addr} {H H1 : Hp} (a : Kp st g l H H1) (h1 : st ∈ N) (h2 : g ∈ N) (h3 : l ∈ N) : Kn N H H1 := fun c o h n => a c o h (fun e => n (e ▸ h1)) (fun e => n (e ▸ h2)) (fun e => n (e ▸ h3))
theorem Kn.upd {N : List Addr} {H : Hp} {p : Addr} {o : HO} (h : p ∈ N) : Kn N H (upd H p o) := fun c x e n => by
  rw [upd_ne (fun z : c = p => n (by rw [z]; exact h))]
  exact e
/-- a def's new object may change -/
theorem Kn.mut {N : List Addr} {H H' : Hp} {p : Addr} {o : HO} (k : Kn N H H') (h : H p = none) : Kn N H (L2.upd H' p o) := fun c x e n => by
  rw [upd_ne (ne_of_none e h)]
  exact k c x e n
theorem Kp.kn {st g l : Addr} {H H1 : Hp} (a : Kn [st, g, l] H H1) : Kp st g l H H1 := fun c o h h1 h2 h3 => a c o h (by simp [h1, h2, h3])
/-- what is drawn with: the state, the room, the pool -/
structure Lt (H : Hp) (st g l rm pl : Addr) (r p : Nat) (po : List (V × Tr)) : Prop where
  S : StAt H st g l
  hr : H rm = some (.lst [.int (r : Nat), .int (p : Nat)])
  hp : H pl = some (.lst (po.map (·.1)))
  po : ∀ m ∈ po, TrAt H m.2 m.1 ∧ Fine 3 m.2
  n1 : rm ≠ st
  n2 : rm ≠ g
  n3 : rm ≠ l
  n4 : pl ≠ st
  n5 : pl ≠ g
  n6 : pl ≠ l
  n7 : rm ≠ pl
/-- tuples stand where what changes are lists -/
theorem tups_of {N : List Addr} {H H' : Hp} (k : Kn N H H') (hN : ∀ b ∈ N, ∃ xs, H b = some (.lst xs)) : ∀ c xs, H c = some (.tup xs) → H' c = some (.tup xs) := fun c xs e => k c _ e fun z => by
  obtain ⟨ys, h⟩ := hN c z
  rw [h] at e
  cases e
theorem Lt.lists {H : Hp} {st g l rm pl : Addr} {r p : Nat} {po : List (V × Tr)} (L : Lt H st g l rm pl r p po) : ∀ b ∈ [st, g, l, rm, pl], ∃ xs, H b = some (.lst xs) := fun b hb => by
  obtain ⟨⟨_, _, _, _, h1, h2, h3, _⟩, _⟩ := L.S
  simp only [List.mem_cons, List.not_mem_nil, or_false] at hb
  rcases hb with rfl | rfl | rfl | rfl | rfl
  · exact ⟨_, h1⟩
  · exact ⟨_, h2⟩
  · exact ⟨_, h3⟩
  · exact ⟨_, L.hr⟩
  · exact ⟨_, L.hp⟩
theorem Lt.same {H H' : Hp} {st g l rm pl : Addr} {r p : Nat} {po : List (V × Tr)} (L : Lt H st g l rm pl r p po) (s : Same H H') : Lt H' st g l rm pl r p po :=
  ⟨L.S.same s, s _ _ L.hr, s _ _ L.hp, fun m hm => ⟨(L.po m hm).1.same s, (L.po m hm).2⟩, L.n1, L.n2, L.n3, L.n4, L.n5, L.n6, L.n7⟩
theorem Lt.kp {H H' : Hp} {st g l rm pl : Addr} {r p : Nat} {po : List (V × Tr)} (L : Lt H st g l rm pl r p po) (S : StAt H' st g l) (k : Kp st g l H H') : Lt H' st g l rm pl r p po :=
  ⟨S, k _ _ L.hr L.n1 L.n2 L.n3, k _ _ L.hp L.n4 L.n5 L.n6, fun m hm => ⟨(L.po m hm).1.tups (tups_of (Kn.kp (N := [st, g, l, rm, pl]) k (by simp) (by simp) (by simp)) L.lists), (L.po m hm).2⟩, L.n1, L.n2, L.n3, L.n4, L.n5, L.n6, L.n7⟩
/-- the room changes -/
theorem Lt.room {H : Hp} {st g l rm pl : Addr} {r p r' p' : Nat} {po : List (V × Tr)} (L : Lt H st g l rm pl r p po) : Lt (upd H rm (.lst [.int (r' : Nat), .int (p' : Nat)])) st g l rm pl r' p' po :=
  ⟨L.S.upd L.n1 L.n2 L.n3, upd_same, by rw [upd_ne L.n7.symm]; exact L.hp, fun m hm => ⟨(L.po m hm).1.tups (tups_of (Kn.upd (N := [st, g, l, rm, pl]) (by simp)) L.lists), (L.po m hm).2⟩, L.n1, L.n2, L.n3, L.n4, L.n5, L.n6, L.n7⟩
/-- the pool grows -/
theorem Lt.pool {H : Hp} {st g l rm pl : Addr} {r p : Nat} {po : List (V × Tr)} (L : Lt H st g l rm pl r p po) {v : V} {t : Tr} (ht : TrAt H t v) (hf : Fine 3 t) : Lt (upd H pl (.lst (po.map (·.1) ++ [v]))) st g l rm pl r p (po ++ [(v, t)]) := by
  have tu := tups_of (Kn.upd (N := [st, g, l, rm, pl]) (o := .lst (po.map (·.1) ++ [v])) (show pl ∈ [st, g, l, rm, pl] by simp)) L.lists
  refine ⟨L.S.upd L.n4 L.n5 L.n6, by rw [upd_ne L.n7]; exact L.hr, by rw [upd_same, List.map_append]; rfl, fun m hm => ?_, L.n1, L.n2, L.n3, L.n4, L.n5, L.n6, L.n7⟩
  rcases List.mem_append.mp hm with hm | hm
  · exact ⟨(L.po m hm).1.tups tu, (L.po m hm).2⟩
  · have e : m = (v, t) := by simpa using hm
    rw [e]
    exact ⟨ht.tups tu, hf⟩
/-- an object of one's own changes -/
theorem Lt.mut {H : Hp} {st g l rm pl b : Addr} {r p : Nat} {po : List (V × Tr)} {xs : List V} {o : HO} (L : Lt H st g l rm pl r p po) (hb : H b = some (.lst xs)) (n : b ∉ [st, g, l, rm, pl]) : Lt (upd H b o) st g l rm pl r p po := by
  simp only [List.mem_cons, List.not_mem_nil, or_false, not_or] at n
  obtain ⟨n1, n2, n3, n4, n5⟩ := n
  have tu : ∀ c ys, H c = some (.tup ys) → (upd H b o) c = some (.tup ys) := fun c ys e => by
    rw [upd_ne (fun z => by rw [z, hb] at e; cases e)]
    exact e
  exact ⟨L.S.upd n1 n2 n3, by rw [upd_ne (Ne.symm n4)]; exact L.hr, by rw [upd_ne (Ne.symm n5)]; exact L.hp, fun m hm => ⟨(L.po m hm).1.tups tu, (L.po m hm).2⟩, L.n1, L.n2, L.n3, L.n4, L.n5, L.n6, L.n7⟩
theorem Lt.fresh {H : Hp} {st g l rm pl b : Addr} {r p : Nat} {po : List (V × Tr)} (L : Lt H st g l rm pl r p po) (hb : H b = none) : b ∉ [st, g, l, rm, pl] := fun z => by
  obtain ⟨xs, e⟩ := L.lists b z
  rw [hb] at e
  cases e
def sp_ltree (d : Nat) : Sp := fun vs H Q _ => ∃ (st g l rm pl : Addr) (f r p : Nat) (po : List (V × Tr)), vs = [.ref st, .int (f : Nat), .ref rm, .ref pl] ∧ f < d ∧ 1 ≤ f ∧ f ≤ 3 ∧ 1 ≤ r ∧ 1 ≤ p ∧ p ≤ 5 ∧ po.length + r ≤ 20 ∧ Lt H st g l rm pl r p po ∧
  ∀ t v H' r' p' po', Lt H' st g l rm pl r' p' po' → Kn [st, g, l, rm, pl] H H' → TrAt H' t v → Fine f t → t.isNil = false → r' + t.recs = r → p' + t.plains = p → po'.length + r' + 1 ≤ po.length + r → Q v H'
def sumR (l : List (Str × Tr)) : Nat := (l.map fun m => m.2.recs).sum
def sumP (l : List (Str × Tr)) : Nat := (l.map fun m => m.2.plains).sum
theorem recs_of {l : List (Str × Tr)} (h : l ≠ []) : (Tr.ofFields l).recs = 1 + sumR l ∧ (Tr.ofFields l).plains = sumP l ∧ (Tr.ofFields l).isNil = false := by
  cases l with
  | nil => exact absurd rfl h
  | cons m l =>
    have e1 := Tr.srec_eq (Tr.ofFields (m :: l))
    have e2 := Tr.spla_eq (Tr.ofFields (m :: l))
    rw [Tr.fields_of] at e1 e2
    exact ⟨congrArg (1 + ·) e1, e2, rfl⟩
theorem sum_snoc (l : List (Str × Tr)) (m : Str × Tr) : sumR (l ++ [m]) = sumR l + m.2.recs ∧ sumP (l ++ [m]) = sumP l + m.2.plains := by
  unfold sumR sumP
  simp
/-- what the loop keeps -/
structure LtI (H0 H : Hp) (st g l rm pl fl : Addr) (f r0 p0 po0 : Nat) (r p : Nat) (po : List (V × Tr)) (fs : List (Str × Tr)) (ps : List V) : Prop where
  lt : Lt H st g l rm pl r p po
  kn : Kn [st, g, l, rm, pl] H0 H
  hf : H fl = some (.lst ps)
  nf : fl ∉ [st, g, l, rm, pl]
  nw : H0 fl = none
  at_ : FsAt H (.ofFields fs) ps
  ok : ∀ m ∈ fs, Fine (f - 1) m.2 ∧ isWord m.1 = true
  nd : (fs.map (·.1)).Nodup
  sr : r + sumR fs + 1 = r0
  sp : p + sumP fs = p0
  sl : po.length + r + 1 ≤ po0 + r0
theorem LtI.same {H0 H H' : Hp} {st g l rm pl fl : Addr} {f r0 p0 po0 : Nat} {r p : Nat} {po : List (V × Tr)} {fs : List (Str × Tr)} {ps : List V} (I : LtI H0 H st g l rm pl fl f r0 p0 po0 r p po fs ps) (s : Same H H') : LtI H0 H' st g l rm pl fl f r0 p0 po0 r p po fs ps :=
  ⟨I.lt.same s, I.kn.trans (Kn.of s), s _ _ I.hf, I.nf, I.nw, I.at_.same s, I.ok, I.nd, I.sr, I.sp, I.sl⟩
theorem LtI.tups {H0 H : Hp} {st g l rm pl fl : Addr} {f r0 p0 po0 : Nat} {r p : Nat} {po : List (V × Tr)} {fs : List (Str × Tr)} {ps : List V} (I : LtI H0 H st g l rm pl fl f r0 p0 po0 r p po fs ps) {H' : Hp} (k : Kn [st, g, l, rm, pl] H H') : ∀ c xs, H c = some (.tup xs) → H' c = some (.tup xs) := tups_of k I.lt.lists
theorem LtI.kp {H0 H H' : Hp} {st g l rm pl fl : Addr} {f r0 p0 po0 : Nat} {r p : Nat} {po : List (V × Tr)} {fs : List (Str × Tr)} {ps : List V} (I : LtI H0 H st g l rm pl fl f r0 p0 po0 r p po fs ps) (S : StAt H' st g l) (k : Kp st g l H H') : LtI H0 H' st g l rm pl fl f r0 p0 po0 r p po fs ps := by
  have k' : Kn [st, g, l, rm, pl] H H' := Kn.kp k (by simp) (by simp) (by simp)
  exact ⟨I.lt.kp S k, I.kn.trans k', k' _ _ I.hf I.nf, I.nf, I.nw, I.at_.tups (I.tups k'), I.ok, I.nd, I.sr, I.sp, I.sl⟩
/-- the drawing goes on below -/
theorem LtI.go {H0 H H' : Hp} {st g l rm pl fl : Addr} {f r0 p0 po0 : Nat} {r p : Nat} {po : List (V × Tr)} {fs : List (Str × Tr)} {ps : List V} (I : LtI H0 H st g l rm pl fl f r0 p0 po0 r p po fs ps) {r' p' : Nat} {po' : List (V × Tr)} (L : Lt H' st g l rm pl r' p' po') (k : Kn [st, g, l, rm, pl] H H') : Kn [st, g, l, rm, pl] H0 H' ∧ H' fl = some (.lst ps) ∧ FsAt H' (.ofFields fs) ps :=
  ⟨I.kn.trans k, k _ _ I.hf I.nf, I.at_.tups (I.tups k)⟩
theorem fm_filter {po : List (V × Tr)} (c : V × Tr → Bool) : (po.filterMap fun m => if c m = true then some m.1 else none) = (po.filter c).map (·.1) := by
  induction po with
  | nil => rfl
  | cons m r ih =>
    rw [List.filterMap_cons, List.filter_cons]
    by_cases h : c m = true
    · rw [if_pos h, if_pos h, List.map_cons, ih]
    · rw [if_neg h, if_neg h, ih]
theorem at_map {po : List (V × Tr)} {j : Nat} {x : V} {m : V × Tr} (hx : (po.map (·.1))[j]? = some x) (hm : po[j]? = some m) : x = m.1 := by
  rw [List.getElem?_map, hm] at hx
  exact (Option.some.inj hx).symm
/-- an if whose test is known -/
theorem ifT {tt : TT} {a b : TS} {D : Ends} {σ : L2.St} {H : Hp} (ht : ∀ Q : Bool → Hp → Prop, Q true H → tt σ H Q) (h : a D σ H) : tIfS tt a b D σ H := ht _ (iteT h)
theorem ifF {tt : TT} {a b : TS} {D : Ends} {σ : L2.St} {H : Hp} (ht : ∀ Q : Bool → Hp → Prop, Q false H → tt σ H Q) (h : b D σ H) : tIfS tt a b D σ H := ht _ (iteF h)
theorem FsAt.len2 {H : Hp} {l : List (Str × Tr)} {ps : List V} (h : FsAt H (.ofFields l) ps) : ps.length = l.length := by rw [h.len, Tr.fields_of]
theorem no_ltree {P : Program} {w : World} {K : PySem.W.Frag} {mg : Str → Option Value} {base : Heap} {k : Nat} {f : Addr} {fd : FuncData} {x y z u : Str} : FnOk P w K mg base CX0 k f fd [x, y, z, u] (sp_ltree 0) :=
  ⟨fun vs H Q E h => by obtain ⟨_, _, _, _, _, _, _, _, _, rfl, _⟩ := h; rfl, fun A outer s H args us vs Q E _ _ _ _ h => by
    obtain ⟨_, _, _, _, _, _, _, _, _, _, h, _⟩ := h
    exact absurd h (Nat.not_lt_zero _)⟩
end Up
namespace Up
open PySem PySem.Spec PyProof.Rows L2 Ub Ur Ug Ue
theorem notStr_same {K : PySem.W.Frag} {N : List Addr} {H H' : Hp} {v : V} {d : PyData} (hd : DtV N H v d) (s : Same H H') (h : NotStr K H v) : NotStr K H' v := by
  cases hd.same s with
  | str z =>
    exfalso
    obtain ⟨T, h1, h2⟩ := h
    cases h1 with
    | base h =>
      cases h
      exact nomatch (show some true = some false from h2)
  | non => exact ⟨_, .base .non, by decide +kernel⟩
  | bl b => exact ⟨_, .base (.bl b), by decide +kernel⟩
  | int i => exact ⟨_, .base (.int i), by decide +kernel⟩
  | lst h1 => exact ⟨_, .base (.lst h1), by decide +kernel⟩
  | tup h1 => exact ⟨_, .base (.tup h1), by decide +kernel⟩
def toldV : Bool → List V
  | true => [.str "made", .bl true]
  | false => [.str "refused", .bl true, .bl true]
def sp_told (K : PySem.W.Frag) : Sp := fun vs H Q _ => ∃ v, vs = [v] ∧ ((∃ z : Str, v = .str z ∧ Asc z ∧ z.length ≤ 6200 ∧ ∀ p H', Same H H' → H p = none → H' p = some (.lst (toldV (shapeOf z).isSome)) → Q (.ref p) H') ∨
  (NotStr K H v ∧ ∃ d, DtV [] H v d ∧ rpOk d = true ∧ ∀ p H', Same H H' → H p = none → H' p = some (.lst (toldV false)) → Q (.ref p) H'))
def toldD : Bool → PyData
  | true => .list [.str "made", .bool true]
  | false => .list [.str "refused", .bool true, .bool true]
theorem dp_told {K : PySem.W.Frag} {H : Hp} {p : Addr} : ∀ {b : Bool}, H p = some (.lst (toldV b)) → Dp K H (.ref p) (toldD b)
  | true, h => .lst (.inl (.inl h)) (.cons (.str _) (.cons (.bl _) .nil))
  | false, h => .lst (.inl (.inl h)) (.cons (.str _) (.cons (.bl _) (.cons (.bl _) .nil)))
theorem told_ok (b : Bool) : SeqAt.shaped (toldD b) = true ∧ PyData.eqv (toldD b) (toldD b) = true := by cases b <;> exact ⟨by decide +kernel, by decide +kernel⟩
/-- a list of texts -/
def Txs (H : Hp) (p : Addr) (n : Nat) : Prop := ∃ ws : List Str, H p = some (.lst (ws.map V.str)) ∧ ws.length = n ∧ ∀ z ∈ ws, z.length ≤ 6200 ∧ Asc z
theorem odd_none : ∀ d ∈ odds, (match d with
  | .str z => (shapeOf z).isNone && (ascB z && decide (z.length ≤ 6200))
  | _ => true) = true := List.all_eq_true.mp (by decide +kernel)
theorem told_odd {K : PySem.W.Frag} {N : List Addr} {H : Hp} {v : V} {d : PyData} {Q : VK} {E : XK} (hd : d ∈ odds) (hv : DtV N H v d) (q : ∀ p H', Same H H' → H p = none → H' p = some (.lst (toldV false)) → Q (.ref p) H') : sp_told K [v] H Q E := by
  refine ⟨v, rfl, ?_⟩
  have rp := odds_rp d hd
  have h0 := hv.free
  cases hv with
  | str z =>
    have := odd_none _ hd
    simp only [Bool.and_eq_true, decide_eq_true_eq, Option.isNone_iff_eq_none] at this
    exact .inl ⟨z, rfl, asc_of this.2.1, this.2.2, by rw [this.1]; exact q⟩
  | non => exact .inr ⟨⟨_, .base .non, by decide +kernel⟩, _, h0, rp, q⟩
  | bl b => exact .inr ⟨⟨_, .base (.bl b), by decide +kernel⟩, _, h0, rp, q⟩
  | int i => exact .inr ⟨⟨_, .base (.int i), by decide +kernel⟩, _, h0, rp, q⟩
  | lst h1 => exact .inr ⟨⟨_, .base (.lst h1), by decide +kernel⟩, _, h0, rp, q⟩
  | tup h1 => exact .inr ⟨⟨_, .base (.tup h1), by decide +kernel⟩, _, h0, rp, q⟩
end Up

namespace Up
open PySem PySem.Spec PyProof.Rows L2 Ub Ur Ug Ue
/-! ### data as it is asked -/
theorem _root_.Ur.DtVs.get {N : List Addr} {H : Hp} : ∀ {xs : List V} {ds : List PyData} {i : Nat} {x : V}, DtVs N H xs ds → xs[i]? = some x → ∃ d, ds[i]? = some d ∧ DtV N H x d
  | _, _, _, _, .nil, e => by simp at e
  | _, _, 0, x, .cons h _, e => by
    have e := Option.some.inj e
    exact ⟨_, rfl, by rw [← e]; exact h⟩
  | _, _, i + 1, x, .cons _ r, e => Ur.DtVs.get (i := i) r e
theorem _root_.Ur.DtVs.same {N : List Addr} {H H' : Hp} {xs : List V} {ds : List PyData} (h : DtVs N H xs ds) (s : Same H H') : DtVs N H' xs ds := h.keep fun b o e _ => s b o e
def isTup : PyData → Bool
  | .tuple _ => true
  | _ => false
theorem _root_.Ur.DtV.tyT {K : PySem.W.Frag} {N : List Addr} {H : Hp} {v : V} {d : PyData} (h : DtV N H v d) : ∃ T : String, TyX K H v (.type T) ∧ kitB T "tuple" = some (isTup d) := by
  cases h with
  | str z => exact ⟨_, .base (.str z), (by decide +kernel : kitB "str" "tuple" = some false)⟩
  | non => exact ⟨_, .base .non, by decide +kernel⟩
  | bl b => exact ⟨_, .base (.bl b), (by decide +kernel : kitB "bool" "tuple" = some false)⟩
  | int i => exact ⟨_, .base (.int i), (by decide +kernel : kitB "int" "tuple" = some false)⟩
  | lst h1 => exact ⟨_, .base (.lst h1), (by decide +kernel : kitB "list" "tuple" = some false)⟩
  | tup h1 => exact ⟨_, .base (.tup h1), (by decide +kernel : kitB "tuple" "tuple" = some true)⟩
theorem _root_.Ur.DtV.strOr {K : PySem.W.Frag} {N : List Addr} {H : Hp} {v : V} {d : PyData} (h : DtV N H v d) : (∃ z : Str, d = .str z ∧ v = .str z) ∨ ((∀ z, d ≠ .str z) ∧ NotStr K H v) := by
  cases h with
  | str z => exact .inl ⟨z, rfl, rfl⟩
  | non => exact .inr ⟨(fun z e => nomatch e), _, .base .non, by decide +kernel⟩
  | bl b => exact .inr ⟨(fun z e => nomatch e), _, .base (.bl b), by decide +kernel⟩
  | int i => exact .inr ⟨(fun z e => nomatch e), _, .base (.int i), by decide +kernel⟩
  | lst h1 => exact .inr ⟨(fun z e => nomatch e), _, .base (.lst h1), by decide +kernel⟩
  | tup h1 => exact .inr ⟨(fun z e => nomatch e), _, .base (.tup h1), by decide +kernel⟩
theorem _root_.Ur.DtV.tupOr {N : List Addr} {H : Hp} {v : V} {d : PyData} (h : DtV N H v d) : (∃ p xs ds, d = .tuple ds ∧ v = .ref p ∧ H p = some (.tup xs) ∧ DtVs N H xs ds) ∨ isTup d = false := by
  cases h with
  | tup h1 _ h2 => exact .inl ⟨_, _, _, rfl, rfl, h1, h2⟩
  | str z => exact .inr rfl
  | non => exact .inr rfl
  | bl b => exact .inr rfl
  | int i => exact .inr rfl
  | lst h1 => exact .inr rfl
/-! ### parameters -/
def pair1 (ws : List Str) (d : PyData) : Option (Str × Tr) := match d with
  | .tuple [.str w, .str z] => (match shapeOf z with
    | some t => if isWord w = true ∧ w ∉ ws then some (w, t) else none
    | none => none)
  | _ => none
def parP : List PyData → List Str → List Nat → Bool
  | [], _, ns => decide (ns.sum ≤ 3)
  | d :: r, ws, ns => match pair1 ws d with
    | some (w, t) => parP r (ws ++ [w]) (ns ++ [t.plains])
    | none => false
def areP : PyData → Bool
  | .tuple ps => decide (ps.length ≤ 3) && parP ps [] []
  | _ => false
theorem pair1_tup {ws : List Str} {d : PyData} (h : isTup d = false) : pair1 ws d = none := by
  cases d <;> first | rfl | cases h
theorem pair1_len {ws : List Str} {qs : List PyData} (h : qs.length ≠ 2) : pair1 ws (.tuple qs) = none := by
  unfold pair1
  split
  · rename_i w z e
    injection e with e
    rw [e] at h
    exact absurd rfl h
  · rfl
theorem pair1_snd {ws : List Str} {a b : PyData} (h : ∀ z, b = .str z → shapeOf z = none) : pair1 ws (.tuple [a, b]) = none := by
  unfold pair1
  split
  · rename_i w z e
    injection e with e
    injection e with _ e
    injection e with e _
    rw [h z e]
  · rfl
theorem pair1_fst {ws : List Str} {a b : PyData} (h : ∀ w, a = .str w → ¬ (isWord w = true ∧ w ∉ ws)) : pair1 ws (.tuple [a, b]) = none := by
  unfold pair1
  split
  · rename_i w z e
    injection e with e
    injection e with e _
    split
    · exact if_neg (h w e)
    · rfl
  · rfl
theorem pair1_ok {ws : List Str} {w z : Str} {t : Tr} (h : shapeOf z = some t) (h1 : isWord w = true) (h2 : w ∉ ws) : pair1 ws (.tuple [.str w, .str z]) = some (w, t) := by
  unfold pair1
  dsimp only
  rw [h]
  exact if_pos ⟨h1, h2⟩
theorem parP_none {ws : List Str} {ns : List Nat} {d : PyData} {r : List PyData} (h : pair1 ws d = none) : parP (d :: r) ws ns = false := by
  show (match pair1 ws d with | some (w, t) => parP r (ws ++ [w]) (ns ++ [t.plains]) | none => false) = false
  rw [h]
theorem parP_some {ws : List Str} {ns : List Nat} {d : PyData} {r : List PyData} {w : Str} {t : Tr} (h : pair1 ws d = some (w, t)) : parP (d :: r) ws ns = parP r (ws ++ [w]) (ns ++ [t.plains]) := by
  show (match pair1 ws d with | some (w, t) => parP r (ws ++ [w]) (ns ++ [t.plains]) | none => false) = _
  rw [h]
/-- its texts are short -/
def Sm (d : PyData) : Prop := ∀ ps, d = .tuple ps → ps.length ≤ 1000 ∧ ∀ p ∈ ps, ∀ qs, p = .tuple qs → qs.length ≤ 1000 ∧ ∀ z, PyData.str z ∈ qs → z.length ≤ 10000
def sp_arep : Sp := fun vs H Q _ => ∃ v d, vs = [v] ∧ DtV [] H v d ∧ Sm d ∧ ∀ H', Same H H' → Q (.bl (areP d)) H'
theorem areP_no {d : PyData} (h : isTup d = false) : areP d = false := by
  cases d <;> first | rfl | cases h
end Up
namespace Up
open PySem PySem.Spec PyProof.Rows L2 Ub Ur Ug Ue
/-! ### how long data are when shown -/
structure RB (k n : Nat) (d : PyData) : Prop where
  s : d.showable = true
  h : d.hasDict = false
  dp : d.depth ≤ k
  l : d.shown.length ≤ n
theorem RB.mono {k n k' n' : Nat} {d : PyData} (r : RB k n d) (hk : k ≤ k') (hn : n ≤ n') : RB k' n' d := ⟨r.s, r.h, Nat.le_trans r.dp hk, Nat.le_trans r.l hn⟩
theorem RB.rp {k n : Nat} {d : PyData} (r : RB k n d) (hk : k ≤ 40) (hn : n ≤ 100000) : rpOk d = true := by
  have h1 := r.s
  have h2 := r.h
  have h3 := Nat.le_trans r.dp hk
  have h4 := Nat.le_trans r.l hn
  unfold rpOk
  rw [h1, h2, decide_eq_true h3]
  cases d <;> simp [h4]
theorem rb_str {z : Str} {m : Nat} (h : Asc z) (hl : z.length ≤ m) : RB 0 (10 * m + 2) (.str z) := by
  have hz := PySem.StrLaws.reprText_len z (fun c hc => Nat.lt_trans (h c hc) (by decide))
  exact ⟨rfl, rfl, Nat.le_refl _, by show (reprText z).length ≤ _; omega⟩
theorem all_showable : ∀ {ds : List PyData}, (∀ d ∈ ds, d.showable = true) → PyData.showableAll ds = true
  | [], _ => rfl
  | d :: r, h => by
    show (d.showable && PyData.showableAll r) = true
    rw [h d List.mem_cons_self, all_showable fun x hx => h x (List.mem_cons_of_mem _ hx)]
    rfl
theorem all_noDict : ∀ {ds : List PyData}, (∀ d ∈ ds, d.hasDict = false) → PyData.hasDictAll ds = false
  | [], _ => rfl
  | d :: r, h => by
    show (d.hasDict || PyData.hasDictAll r) = false
    rw [h d List.mem_cons_self, all_noDict fun x hx => h x (List.mem_cons_of_mem _ hx)]
    rfl
theorem all_depth {k : Nat} : ∀ {ds : List PyData}, (∀ d ∈ ds, d.depth ≤ k) → PyData.depthAll ds ≤ k
  | [], _ => Nat.zero_le _
  | d :: r, h => by
    show max d.depth (PyData.depthAll r) ≤ k
    have h1 := h d List.mem_cons_self
    have h2 := all_depth (fun x hx => h x (List.mem_cons_of_mem _ hx)) (ds := r)
    omega
theorem shownAll_len : ∀ ds : List PyData, (PyData.shownAll ds).length = ds.length
  | [] => rfl
  | d :: r => congrArg Nat.succ (shownAll_len r)
theorem shownAll_sum {n : Nat} : ∀ {ds : List PyData}, (∀ d ∈ ds, d.shown.length ≤ n) → ((PyData.shownAll ds).map (·.length)).sum ≤ ds.length * n
  | [], _ => Nat.zero_le _
  | d :: r, h => by
    show (d.shown :: PyData.shownAll r |>.map (·.length)).sum ≤ (r.length + 1) * n
    have h1 := h d List.mem_cons_self
    have h2 := shownAll_sum (fun x hx => h x (List.mem_cons_of_mem _ hx)) (ds := r)
    rw [List.map_cons, List.sum_cons, Nat.succ_mul]
    omega
theorem textFrom_le : ∀ (ts : List Str) (k : Nat) (acc : Str), (textFrom k acc ts).length ≤ acc.length + (ts.map (·.length)).sum + 2 * ts.length
  | [], _, _ => by show _ ≤ _; simp [textFrom]
  | t :: r, k, acc => by
    have ih := textFrom_le r (k + 1) (acc ++ (if k > 0 then ", " else "" : String) ++ t)
    have e2 : ((if k > 0 then ", " else "" : String) : Str).length ≤ 2 := by split <;> decide +kernel
    rw [len_app, len_app] at ih
    show (textFrom (k + 1) (acc ++ (if k > 0 then ", " else "" : String) ++ t) r).length ≤ _
    rw [List.map_cons, List.sum_cons, List.length_cons]
    omega
theorem rb_tup {k n m : Nat} {ds : List PyData} (h : ∀ d ∈ ds, RB k n d) (hl : ds.length ≤ m) : RB (k + 1) (3 + m * (n + 2)) (.tuple ds) := by
  refine ⟨all_showable fun d hd => (h d hd).s, all_noDict fun d hd => (h d hd).h, Nat.succ_le_succ (all_depth fun d hd => (h d hd).dp), ?_⟩
  have h1 := shownAll_sum (n := n) fun d hd => (h d hd).l
  have h2 := Tr.join_len ", " (PyData.shownAll ds)
  have e3 : ((", " : Str)).length = 2 := by decide +kernel
  rw [e3, shownAll_len] at h2
  show (("(" : Str) ++ Str.join ", " (PyData.shownAll ds) ++ (if (PyData.shownAll ds).length == 1 then ",)" else ")" : String)).length ≤ _
  have e1 : (("(" : Str)).length = 1 := by decide +kernel
  have e2 : ((if (PyData.shownAll ds).length == 1 then ",)" else ")" : String) : Str).length ≤ 2 := by split <;> decide +kernel
  rw [len_app, len_app, e1]
  have h3 : ds.length * (n + 2) ≤ m * (n + 2) := Nat.mul_le_mul_right _ hl
  have h4 : ds.length * (n + 2) = ds.length * n + ds.length * 2 := Nat.mul_add _ _ _

  omega
theorem rb_lst {k n m : Nat} {ds : List PyData} (h : ∀ d ∈ ds, RB k n d) (hl : ds.length ≤ m) : RB (k + 1) (3 + m * (n + 2)) (.list ds) := by
  refine ⟨all_showable fun d hd => (h d hd).s, all_noDict fun d hd => (h d hd).h, Nat.succ_le_succ (all_depth fun d hd => (h d hd).dp), ?_⟩
  have h1 := shownAll_sum (n := n) fun d hd => (h d hd).l
  have h2 := textFrom_le (PyData.shownAll ds) 0 "["
  rw [shownAll_len] at h2
  show (textFrom 0 "[" (PyData.shownAll ds) ++ ("]" : Str)).length ≤ _
  have e1 : (("]" : Str)).length = 1 := by decide +kernel
  have e2 : (("[" : Str)).length = 1 := by decide +kernel
  rw [len_app, e1]
  rw [e2] at h2
  have h3 : ds.length * (n + 2) ≤ m * (n + 2) := Nat.mul_le_mul_right _ hl
  have h4 : ds.length * (n + 2) = ds.length * n + ds.length * 2 := Nat.mul_add _ _ _
  omega
theorem odds_rb : ∀ d ∈ odds, RB 3 80 d := fun d hd => by
  have h := List.all_eq_true.mp (show odds.all (fun d => d.showable && (!d.hasDict && (decide (d.depth ≤ 3) && decide (d.shown.length ≤ 80)))) = true by decide +kernel) d hd
  simp only [Bool.and_eq_true, decide_eq_true_eq, Bool.not_eq_true'] at h
  exact ⟨h.1, h.2.1, h.2.2.1, h.2.2.2⟩
end Up
namespace Up
open PySem PySem.Spec PyProof.Rows L2 Ub Ur Ug Ue
/-- a drawn record's tree of at least so many fields -/
def sp_mshape : Sp := fun vs H Q _ => ∃ (st g l : Addr) (le : Nat), vs = [.ref st, .int (le : Nat)] ∧ 1 ≤ le ∧ le ≤ 2 ∧ StAt H st g l ∧ ∀ t v H', good t → t.isNil = false → le ≤ t.fields.length → TrAt H' t v → StAt H' st g l → Kp st g l H H' → Q v H'
end Up
namespace Up
open PySem PySem.Spec PyProof.Rows L2 Ub Ur Ug Ue
/-- objects made since are not told of -/
theorem Kn.drop {st g l rm pl : Addr} {H H1 H2 : Hp} (k : Kp st g l H H1) (k2 : Kn [st, g, l, rm, pl] H1 H2) (h1 : H rm = none) (h2 : H pl = none) : Kp st g l H H2 := fun b o e b1 b2 b3 => k2 b o (k b o e b1 b2 b3) (by
  simp only [List.mem_cons, List.not_mem_nil, or_false, not_or]
  exact ⟨b1, b2, b3, ne_of_none e h1, ne_of_none e h2⟩)
end Up

namespace Up
open PySem PySem.Spec PyProof.Rows L2 Ub Ur Ug Ue
/-! ### which parameters are good -/
theorem parP_bad {x : PyData} : ∀ (pre post : List PyData) (ws : List Str) (ns : List Nat), (∀ ws', (∀ w ∈ ws, w ∈ ws') → pair1 ws' x = none) → parP (pre ++ x :: post) ws ns = false
  | [], post, ws, ns, h => by
    show (match pair1 ws x with | some (w, t) => parP post (ws ++ [w]) (ns ++ [t.plains]) | none => false) = false
    rw [h ws fun _ z => z]
  | d :: pre, post, ws, ns, h => by
    show (match pair1 ws d with | some (w, t) => parP (pre ++ x :: post) (ws ++ [w]) (ns ++ [t.plains]) | none => false) = false
    cases pair1 ws d with
    | none => rfl
    | some p => exact parP_bad pre post _ _ fun ws' hw => h ws' fun w hw' => hw w (List.mem_append_left _ hw')
def pairD (p : Str × Str) : PyData := .tuple [.str p.1, .str p.2]
theorem pair1_in {p : Str × Str} {ws : List Str} (h : p.1 ∈ ws) : pair1 ws (pairD p) = none := by
  unfold pairD pair1
  dsimp only
  cases shapeOf p.2 with
  | none => rfl
  | some t => exact if_neg fun z => z.2 h
theorem parP_dup {p : Str × Str} {l : List PyData} {ws : List Str} {ns : List Nat} (h : pairD p ∈ l) : parP (l ++ [pairD p]) ws ns = false := by
  induction l generalizing ws ns with
  | nil => exact nomatch h
  | cons d r ih =>
    show (match pair1 ws d with | some (w, t) => parP (r ++ [pairD p]) (ws ++ [w]) (ns ++ [t.plains]) | none => false) = false
    rcases List.mem_cons.mp h with h | h
    · cases e : pair1 ws d with
      | none => rfl
      | some q =>
        obtain ⟨w, t⟩ := q
        have ew : w = p.1 := by
          rw [← h] at e
          unfold pairD pair1 at e
          dsimp only at e
          split at e
          · split at e
            · exact (Prod.mk.inj (Option.some.inj e)).1.symm
            · cases e
          · cases e
        refine parP_bad r [] _ _ fun ws' hw => pair1_in (hw _ ?_)
        rw [ew]
        simp
    · cases pair1 ws d with
      | none => rfl
      | some q => exact ih h
def plT (z : Str) : Nat := match shapeOf z with
  | some t => t.plains
  | none => 0
theorem parP_good : ∀ (ps : List (Str × Str)) (ws : List Str) (ns : List Nat), (∀ p ∈ ps, isWord p.1 = true ∧ (shapeOf p.2).isSome = true ∧ p.1 ∉ ws) → (ps.map (·.1)).Nodup → parP (ps.map pairD) ws ns = decide (ns.sum + (ps.map fun p => plT p.2).sum ≤ 3)
  | [], ws, ns, _, _ => by
    show decide (ns.sum ≤ 3) = decide (ns.sum + 0 ≤ 3)
    rfl
  | p :: ps, ws, ns, h, hn => by
    obtain ⟨h1, h2, h3⟩ := h p List.mem_cons_self
    obtain ⟨t, ht⟩ := Option.isSome_iff_exists.mp h2
    have e : pair1 ws (pairD p) = some (p.1, t) := by
      unfold pairD pair1
      dsimp only
      rw [ht]
      exact if_pos ⟨h1, h3⟩
    rw [List.map_cons, List.nodup_cons] at hn
    show (match pair1 ws (pairD p) with | some (w, t) => parP (ps.map pairD) (ws ++ [w]) (ns ++ [t.plains]) | none => false) = _
    rw [e]
    dsimp only
    rw [parP_good ps _ _ (fun q hq => ⟨(h q (List.mem_cons_of_mem _ hq)).1, (h q (List.mem_cons_of_mem _ hq)).2.1, fun z => ?_⟩) hn.2]
    · have et : plT p.2 = t.plains := by unfold plT; rw [ht]
      rw [List.map_cons, List.sum_cons, et, List.sum_append, List.sum_cons, List.sum_nil]
      congr 1
      apply propext
      omega
    · rcases List.mem_append.mp z with z | z
      · exact (h q (List.mem_cons_of_mem _ hq)).2.2 z
      · have : q.1 = p.1 := by simpa using z
        exact hn.1 (List.mem_map.mpr ⟨q, hq, this⟩)
def okTexts : List Str := [".", "{a: .}", "{a: ., b: .}", "{c: {d: .}}"]
/-- parameters that are good: pairs of a word and a text -/
structure GoodP (ps : List (Str × Str)) : Prop where
  ok : ∀ p ∈ ps, isWord p.1 = true ∧ p.2 ∈ okTexts
  nd : (ps.map (·.1)).Nodup
  len : ps.length ≤ 3
  sum : (ps.map fun p => plT p.2).sum ≤ 3
theorem okTexts_some : ∀ z ∈ okTexts, (shapeOf z).isSome = true ∧ isWord z = false ∧ ascB z = true ∧ z.length ≤ 12 ∧ shapeOf (z ++ " ") = none := by
  intro z hz
  have h := List.all_eq_true.mp (show okTexts.all (fun z => (shapeOf z).isSome && (!isWord z && (ascB z && (decide (z.length ≤ 12) && (shapeOf (z ++ " ")).isNone)))) = true by decide +kernel) z hz
  simp only [Bool.and_eq_true, decide_eq_true_eq, Bool.not_eq_true', Option.isNone_iff_eq_none] at h
  exact ⟨h.1, h.2.1, h.2.2.1, h.2.2.2.1, h.2.2.2.2⟩
theorem GoodP.are {ps : List (Str × Str)} (g : GoodP ps) : areP (.tuple (ps.map pairD)) = true := by
  show (decide ((ps.map pairD).length ≤ 3) && parP (ps.map pairD) [] []) = true
  rw [parP_good ps [] [] (fun p hp => ⟨(g.ok p hp).1, (okTexts_some _ (g.ok p hp).2).1, by simp⟩) g.nd, List.length_map]
  have h1 := g.len
  have h2 := g.sum
  simp [h1, h2]
def sp_readrow9 : Sp := fun vs H Q _ => ∃ sh pv r, vs = [sh, pv, r] ∧ (r = .non ∨ r = .str "no row") ∧ ∀ H', Same H H' → Q .non H'
def row9 (r : V) : Prop := r = .str "then" ∨ r = .str "no row" ∨ r = .non
def sp_fits9 : Sp := fun vs H Q _ => ∃ sh pv rs r, vs = [sh, pv, .ref rs, r] ∧ H rs = some (.tup []) ∧ row9 r ∧ ∀ H', Same H H' → Q (.bl (decide (r = .str "then"))) H'
def sp_split9 : Sp := fun vs H Q _ => ∃ rs, vs = [.ref rs] ∧ H rs = some (.tup [.str "then"]) ∧ ∀ p a b H', Same H H' → H' p = some (.tup [.ref a, .ref b]) → H' a = some (.tup []) → H' b = some (.tup []) → Q (.ref p) H'
/-- Update.__init__ with one row of those: the rows' tuple behind the other arguments -/
def sp_upd9 (C BP BR : Addr) : Sp := fun vs H Q E => ∃ x sh pvv rs dx r d, vs = [.ref x, sh, pvv, .ref rs] ∧ H x = some (.ins C dx []) ∧ H rs = some (.tup [r]) ∧ row9 r ∧ DtV [] H pvv d ∧ Sm d ∧
  (areP d = false → ∀ e H', Same H H' → H e = none → H' e = some (.xd [("parameters", pvv)]) → E (.ref BP) (some e) H') ∧
  (areP d = true → r ≠ .str "then" → ∀ e H', Same H H' → H e = none → H' e = some (.xd [("at", .int 0)]) → E (.ref BR) (some e) H') ∧
  (areP d = true → r = .str "then" → ∀ H' w1 w2 w3, (∀ b o, H b = some o → b ≠ x → H' b = some o) → H' x = some (.ins C dx [("shape", sh), ("parameters", pvv), ("rows", w1), ("kinds", w2), ("writings", w3)]) → Q .non H')
theorem pair1_out {ws : List Str} {d : PyData} {w : Str} {t : Tr} (h : pair1 ws d = some (w, t)) : ∃ z, d = .tuple [.str w, .str z] ∧ shapeOf z = some t := by
  unfold pair1 at h
  split at h
  · rename_i w' z
    split at h
    · rename_i t' e
      split at h
      · have e2 := Option.some.inj h
        injection e2 with e3 e4
        subst e3 e4
        exact ⟨z, rfl, e⟩
      · cases h
    · cases h
  · cases h
theorem parP_all : ∀ {ds : List PyData} {ws : List Str} {ns : List Nat}, parP ds ws ns = true → ∀ d ∈ ds, ∃ w z t, d = .tuple [.str w, .str z] ∧ shapeOf z = some t
  | [], _, _, _, d, hd => nomatch hd
  | d0 :: r, ws, ns, h, d, hd => by
    cases e : pair1 ws d0 with
    | none => rw [parP_none e] at h; cases h
    | some p =>
      obtain ⟨w, t⟩ := p
      rw [parP_some e] at h
      obtain ⟨z, e1, e2⟩ := pair1_out e
      rcases List.mem_cons.mp hd with hd | hd
      · exact ⟨w, z, t, by rw [hd]; exact e1, e2⟩
      · exact parP_all h d hd
theorem areP_tup {d : PyData} (h : areP d = true) : ∃ ds, d = .tuple ds ∧ ds.length ≤ 3 ∧ parP ds [] [] = true := by
  cases d with
  | tuple ds =>
    have h : (decide (ds.length ≤ 3) && parP ds [] []) = true := h
    rw [Bool.and_eq_true, decide_eq_true_eq] at h
    exact ⟨ds, rfl, h.1, h.2⟩
  | _ => cases h
theorem cut0 (r : V) : cutV [r] none (some ((0 : Nat) : Int)) = [] := rfl
mutual
theorem _root_.Ur.DtV.dp {K : PySem.W.Frag} {N : List Addr} {H : Hp} : ∀ {v : V} {d : PyData}, DtV N H v d → Dp K H v d
  | _, _, .non => .non
  | _, _, .bl b => .bl b
  | _, _, .int i => .int i
  | _, _, .str z => .str z
  | _, _, .lst h _ r => .lst (.inl (.inl h)) (Ur.DtVs.dp r)
  | _, _, .tup h _ r => .tup (.inl (.inl h)) (Ur.DtVs.dp r)
theorem _root_.Ur.DtVs.dp {K : PySem.W.Frag} {N : List Addr} {H : Hp} : ∀ {xs : List V} {ds : List PyData}, DtVs N H xs ds → DpAll K H xs ds
  | _, _, .nil => .nil
  | _, _, .cons h r => .cons (Ur.DtV.dp h) (Ur.DtVs.dp r)
end
def told9 : Bool → Bool → List V
  | false, _ => [.str "parameters", .bl true]
  | true, true => [.str "made", .bl true]
  | true, false => [.str "row", .bl true]
def told9D : Bool → Bool → PyData
  | false, _ => .list [.str "parameters", .bool true]
  | true, true => .list [.str "made", .bool true]
  | true, false => .list [.str "row", .bool true]
theorem dp_told9 {K : PySem.W.Frag} {H : Hp} {p : Addr} : ∀ {a b : Bool}, H p = some (.lst (told9 a b)) → Dp K H (.ref p) (told9D a b)
  | false, _, h => .lst (.inl (.inl h)) (.cons (.str _) (.cons (.bl _) .nil))
  | true, true, h => .lst (.inl (.inl h)) (.cons (.str _) (.cons (.bl _) .nil))
  | true, false, h => .lst (.inl (.inl h)) (.cons (.str _) (.cons (.bl _) .nil))
theorem told9_ok (a b : Bool) : SeqAt.shaped (told9D a b) = true ∧ PyData.eqv (told9D a b) (told9D a b) = true := by cases a <;> cases b <;> exact ⟨by decide +kernel, by decide +kernel⟩
def sp_told9 : Sp := fun vs H Q _ => ∃ sh pvv r d, vs = [sh, pvv, r] ∧ row9 r ∧ DtV [] H pvv d ∧ Sm d ∧ rpOk d = true ∧ (areP d = true → SeqAt.shaped d = true ∧ PyData.eqv d d = true) ∧
  ∀ p H', Same H H' → H p = none → H' p = some (.lst (told9 (areP d) (decide (r = .str "then")))) → Q (.ref p) H'
end Up

namespace Ve
open PySem PySem.Spec PyProof.Rows L2 Ub Ur Ug Ue Up Uo
/-! ### the law's own paths -/
def sub1 (m : Str × Tr) : List (Str × Tr) := (paths m.2).map fun q => (down m.1 q.1, q.2)
theorem fp_flat : ∀ t : Tr, fp t = t.fields.flatMap sub1
  | .nil => rfl
  | .cons w t r => by
    show ((("." : Str), t) :: fp t).map (fun m => (down w m.1, m.2)) ++ fp r = sub1 (w, t) ++ r.fields.flatMap sub1
    rw [fp_flat r]
    rfl
def upto (t : Tr) (i : Nat) : List (Str × Tr) := (("." : Str), t) :: (t.fields.take i).flatMap sub1
theorem upto_all (t : Tr) : upto t t.fields.length = paths t := by
  unfold upto paths
  rw [List.take_length, fp_flat]
theorem upto_next {t : Tr} {i : Nat} {m : Str × Tr} (h : t.fields[i]? = some m) : upto t (i + 1) = upto t i ++ sub1 m := by
  unfold upto
  rw [List.take_add_one, h, List.flatMap_append]
  simp
theorem fp_len (t : Tr) : (fp t).length = t.size := by
  induction t with
  | nil => rfl
  | cons w t r h1 h2 =>
    show (((("." : Str), t) :: fp t).map (fun m => (down w m.1, m.2)) ++ fp r).length = 1 + t.size + r.size
    rw [List.length_append, List.length_map, List.length_cons, h1, h2]
    omega
theorem upto_len (t : Tr) (i : Nat) : (upto t i).length ≤ 1 + t.size := by
  have : (upto t i).length ≤ (upto t t.fields.length).length := by
    unfold upto
    rw [List.length_cons, List.length_cons, List.take_length]
    have e : t.fields.flatMap sub1 = (t.fields.take i).flatMap sub1 ++ (t.fields.drop i).flatMap sub1 := by rw [← List.flatMap_append, List.take_append_drop]
    rw [e, List.length_append]
    omega
  rw [upto_all] at this
  have e : (paths t).length = 1 + t.size := by show (fp t).length + 1 = _; rw [fp_len]; omega
  omega
def sp_lpaths (d : Nat) : Sp := fun vs H Q _ => ∃ t v, vs = [v] ∧ TrAt H t v ∧ t.depth < d ∧ good t ∧ ∀ D ps H', Same H H' → H D = none → H' D = some (.lst ps) → FsAt H' (.ofFields (paths t)) ps → Q (.ref D) H'
theorem no_lpaths {P : Program} {w : World} {K : PySem.W.Frag} {mg : Str → Option Value} {base : Heap} {k : Nat} {f : Addr} {fd : FuncData} {x : Str} : FnOk P w K mg base CX0 k f fd [x] (sp_lpaths 0) :=
  ⟨fun vs H Q E h => by obtain ⟨t, v, rfl, _⟩ := h; rfl, fun A outer s H args us vs Q E _ _ _ _ h => by
    obtain ⟨t, v, _, _, h, _⟩ := h
    exact absurd h (Nat.not_lt_zero _)⟩
theorem mut_tups {H : Hp} {D : Addr} {xs ys : List V} (h : H D = some (.lst xs)) : ∀ c zs, H c = some (.tup zs) → (upd H D (.lst ys)) c = some (.tup zs) := fun c zs e => by
  rw [upd_ne (fun z => by rw [z, h] at e; cases e)]
  exact e
theorem sz6 {n : Nat} (h : n ≤ 10000) : n < sizeLine := Nat.lt_of_le_of_lt h (by decide)
theorem lnF {H : Hp} {l : List (Str × Tr)} {ps : List V} (h : FsAt H (.ofFields l) ps) : ps.length = l.length := by rw [h.len, Tr.fields_of]
end Ve

namespace Ve
open PySem PySem.Spec PyProof.Rows L2 Ub Ur Ug Ue Up Uo
/-- what is told of a path: the tree below, or none -/
def dueD : Option Tr → PyData
  | none => .tuple [.str "refused", .list [.bool true, .bool true]]
  | some b => .tuple [.str "shape", .str b.text, .list ((pks b).map PyData.str)]
/-- y asked of the tree t: o is what stands there -/
def Asks (K : PySem.W.Frag) (H : Hp) (t : Tr) (y : V) (o : Option Tr) : Prop := (∃ m ∈ paths t, y = .str m.1 ∧ o = some m.2) ∨ (NoP K H t y ∧ o = none)
def sp_below (K : PySem.W.Frag) (C : Addr) : Sp := fun vs H Q _ => ∃ x g Z y o d, vs = [.ref x, y] ∧ ShG Z C H x g ∧ good g.tr ∧ Asks K H g.tr y o ∧ DtV [] H y d ∧ rpOk d = true ∧ ∀ p H', Same H H' → DtV [] H' (.ref p) (dueD o) → Q (.ref p) H'
def sp_due (K : PySem.W.Frag) : Sp := fun vs H Q _ => ∃ a ps t y o d, vs = [.ref a, y] ∧ H a = some (.lst ps) ∧ FsAt H (.ofFields (paths t)) ps ∧ good t ∧ Asks K H t y o ∧ DtV [] H y d ∧ SeqAt.shaped d = true ∧ ∀ p H', Same H H' → DtV [] H' (.ref p) (dueD o) → Q (.ref p) H'
theorem dtvs_str {N : List Addr} {H : Hp} : ∀ (l : List Str), DtVs N H (l.map V.str) (l.map PyData.str)
  | [] => .nil
  | z :: l => .cons (.str z) (dtvs_str l)
/-- the values of such a list -/
theorem FsAt_vals {H : Hp} : ∀ {L : List (Str × Tr)} {ps : List V}, FsAt H (.ofFields L) ps → ∃ ms : List (Str × Tr × V), ms.map (fun m => (m.1, m.2.1)) = L ∧ ms.length = ps.length ∧ ∀ (j : Nat) (m : Str × Tr × V), ms[j]? = some m → ∃ p : Addr, ps[j]? = some (V.ref p) ∧ H p = some (.tup [.str m.1, m.2.2]) ∧ TrAt H m.2.1 m.2.2
  | [], ps, h => by
    have e : ps = [] := h
    subst e
    exact ⟨[], rfl, rfl, fun j m hm => by simp at hm⟩
  | (w, t) :: L, ps, h => by
    obtain ⟨p, q, qs, rfl, h2, h3, h4⟩ := h
    obtain ⟨ms, e, l, k⟩ := FsAt_vals (L := L) h4
    refine ⟨(w, t, q) :: ms, by rw [List.map_cons, e], by rw [List.length_cons, List.length_cons, l], fun j m hm => ?_⟩
    cases j with
    | zero =>
      rw [List.getElem?_cons_zero] at hm ⊢
      cases hm
      exact ⟨p, rfl, h2, h3⟩
    | succ j =>
      rw [List.getElem?_cons_succ] at hm ⊢
      exact k j m hm
theorem fm_one {c : Str × Tr × V → Bool} : ∀ {ms : List (Str × Tr × V)} {m0 : Str × Tr × V}, (ms.map (·.1)).Nodup → m0 ∈ ms → (∀ m, c m = (m.1 == m0.1)) → ms.filterMap (fun m => if c m = true then some m.2.2 else none) = [m0.2.2]
  | [], m0, _, h, _ => nomatch h
  | m :: ms, m0, hn, h, hc => by
    obtain ⟨a, b⟩ := List.nodup_cons.mp hn
    rw [List.filterMap_cons]
    rcases List.mem_cons.mp h with e | h
    · rw [hc m, e, beq_self_eq_true, if_pos rfl]
      have : ms.filterMap (fun m => if c m = true then some m.2.2 else none) = [] := by
        rw [List.filterMap_eq_nil_iff]
        intro k hk
        rw [hc k, if_neg]
        intro z
        have z := beq_iff_eq.mp z
        rw [e] at z
        exact a (List.mem_map.mpr ⟨k, hk, z⟩)
      rw [← e]
      simp only [this]
    · have : c m = false := by
        rw [hc m]
        exact beq_eq_false_iff_ne.mpr fun z => a (List.mem_map.mpr ⟨m0, h, z.symm⟩)
      rw [this]
      simp only [Bool.false_eq_true, if_false]
      exact fm_one b h hc
theorem fm_none {c : Str × Tr × V → Bool} {ms : List (Str × Tr × V)} (h : ∀ m ∈ ms, c m = false) : ms.filterMap (fun m => if c m = true then some m.2.2 else none) = [] := by
  rw [List.filterMap_eq_nil_iff]
  intro m hm
  rw [h m hm]
  rfl
theorem strOk_asc {z : Str} (h : Asc z) : PyData.strOk z = true := by
  unfold PyData.strOk
  rw [Array.all_eq_true']
  intro c hc
  have := h c (by rw [cs]; exact Array.mem_toList_iff.mpr hc)
  simp only [decide_eq_true_eq]
  omega
theorem shaped_str {z : Str} (h : Asc z) : SeqAt.shaped (.str z) = true := by
  unfold SeqAt.shaped
  rw [show PyData.depth (.str z) = 0 from rfl, show (PyData.str z).canLay0 = PyData.strOk z by simp [PyData.canLay0], strOk_asc h]
  rfl
theorem eqv_str {z : Str} {d : PyData} (h : ∀ u, d = .str u → z ≠ u) : PyData.eqv (.str z) d = false := by
  cases d <;> first | rfl | skip
  rename_i u
  exact beq_eq_false_iff_ne.mpr (h u rfl)
theorem eqv_strs (z u : Str) : PyData.eqv (.str z) (.str u) = (z == u) := by simp [PyData.eqv]
/-- what is no text is no data text -/
theorem notStr_data {K : PySem.W.Frag} {N : List Addr} {H : Hp} {y : V} {d : PyData} (h : DtV N H y d) (n : NotStr K H y) : ∀ u, d ≠ .str u := fun u e => by
  subst e
  cases h
  obtain ⟨T0, ht, hk⟩ := n
  cases ht with
  | base h =>
    cases h
    exact absurd hk (by decide +kernel)
end Ve

namespace Up
open PySem PySem.Spec PyProof.Rows L2 Ub Ur Ug Ue
def sp_spoilt : Sp := fun vs H Q _ => ∃ st g l pp us ps, vs = [.ref st, .ref pp] ∧ H pp = some (.tup us) ∧ DtVs [st, g, l] H us (ps.map pairD) ∧ GoodP ps ∧ ps ≠ [] ∧ StAt H st g l ∧
  ∀ v d H', DtV [st, g, l] H' v d → areP d = false → Sm d → rpOk d = true → StAt H' st g l → Kp st g l H H' → Q v H'
/-- what _law_spoilt may put in a pair's place -/
def cands (w z : Str) (o : PyData) : List PyData := [.tuple [.str w, .str z, .str z], .tuple [.str w], .list [.str w, .str z], .tuple [.str z, .str w], o, .tuple [.str w, o], .tuple [.str "copy", .str z], .tuple [.str (w ++ "A"), .str z],
  .tuple [.str w, .str (z ++ " ")], .tuple [.str "abcdefghi", .str z], .tuple [.str w, .str "{}"], .tuple [.str "", .str z]]
theorem odds_no : ∀ o ∈ odds, (∀ ws, pair1 ws o = none) ∧ (∀ z, o = .str z → shapeOf z = none) ∧ (∀ qs, o = .tuple qs → qs.length ≤ 3 ∧ ∀ z, PyData.str z ∈ qs → z.length ≤ 3) := by
  intro o ho
  simp only [odds, List.mem_cons, List.not_mem_nil, or_false] at ho
  refine ⟨fun ws => ?_, fun z hz => ?_, fun qs hq => ?_⟩
  · rcases ho with rfl | rfl | rfl | rfl | rfl | rfl | rfl | rfl | rfl | rfl | rfl | rfl | rfl | rfl | rfl | rfl | rfl | rfl | rfl | rfl | rfl | rfl | rfl | rfl | rfl <;> rfl
  · have h := List.all_eq_true.mp (show odds.all (fun o => match o with | .str z => (shapeOf z).isNone | _ => true) = true by decide +kernel) o (by simp only [odds, List.mem_cons, List.not_mem_nil, or_false]; exact ho)
    rw [hz] at h
    exact Option.isNone_iff_eq_none.mp h
  · have h := List.all_eq_true.mp (show odds.all (fun o => match o with | .tuple qs => decide (qs.length ≤ 3) && qs.all (fun q => match q with | .str z => decide (z.length ≤ 3) | _ => true) | _ => true) = true by decide +kernel) o (by simp only [odds, List.mem_cons, List.not_mem_nil, or_false]; exact ho)
    rw [hq] at h
    simp only [Bool.and_eq_true, decide_eq_true_eq] at h
    refine ⟨h.1, fun z hz => ?_⟩
    have := List.all_eq_true.mp h.2 _ hz
    simpa using this
theorem isWord_A {z : Str} : isWord (z ++ "A") = false := by
  cases h : isWord (z ++ "A") with
  | false => rfl
  | true =>
    have hl := (isWord_iff.mp h).2.2.1 65 (by
      have : (65 : Nat) ∈ cs (z ++ "A") := by
        rw [cs_app]
        exact List.mem_append_right _ (by decide +kernel)
      exact this)
    exact absurd hl (by decide +kernel)
def Fit (x : PyData) : Prop := (∀ ws, pair1 ws x = none) ∧ RB 4 1000 x ∧ ∀ qs, x = .tuple qs → qs.length ≤ 3 ∧ ∀ y, PyData.str y ∈ qs → y.length ≤ 100
theorem rb1 {z : Str} (h : Asc z) (hl : z.length ≤ 13) : RB 3 140 (.str z) := (rb_str h hl).mono (by omega) (by omega)
theorem rbT {ds : List PyData} (h : ∀ d ∈ ds, RB 3 140 d) (hl : ds.length ≤ 3) : RB 4 1000 (.tuple ds) := (rb_tup h hl).mono (by omega) (by omega)
theorem rbL {ds : List PyData} (h : ∀ d ∈ ds, RB 3 140 d) (hl : ds.length ≤ 3) : RB 4 1000 (.list ds) := (rb_lst h hl).mono (by omega) (by omega)
theorem fit2 {a b : PyData} (h : ∀ ws, pair1 ws (.tuple [a, b]) = none) (ha : RB 3 140 a) (hb : RB 3 140 b) (la : ∀ y, a = .str y → y.length ≤ 100) (lb : ∀ y, b = .str y → y.length ≤ 100) : Fit (.tuple [a, b]) := by
  refine ⟨h, rbT (fun d hd => ?_) (by simp), fun qs hq => ?_⟩
  · simp only [List.mem_cons, List.not_mem_nil, or_false] at hd
    rcases hd with rfl | rfl
    · exact ha
    · exact hb
  · injection hq with hq
    subst hq
    refine ⟨by simp, fun y hy => ?_⟩
    simp only [List.mem_cons, List.not_mem_nil, or_false] at hy
    rcases hy with e | e
    · exact la y e.symm
    · exact lb y e.symm
theorem lstr {z : Str} {n : Nat} (h : z.length ≤ n) (hn : n ≤ 100) : ∀ y, PyData.str z = .str y → y.length ≤ 100 := fun y e => by
  injection e with e
  subst e
  omega
theorem cands_fit {w z : Str} {o : PyData} (hw : isWord w = true) (hz : z ∈ okTexts) (ho : o ∈ odds) : ∀ x ∈ cands w z o, Fit x := by
  intro x hx
  obtain ⟨z1, z2, z3, z4, z5⟩ := okTexts_some z hz
  have az : Asc z := asc_of z3
  have aw : Asc w := word_asc hw
  have lw := (isWord_len hw).2
  obtain ⟨o1, o2, o3⟩ := odds_no o ho
  have rw1 : RB 3 140 (.str w) := rb1 aw (by omega)
  have rz1 : RB 3 140 (.str z) := rb1 az (by omega)
  have ro : RB 3 140 o := (odds_rb o ho).mono (by omega) (by omega)
  have lo : ∀ y, o = .str y → y.length ≤ 100 := fun y e => by
    have := (odds_rb o ho).l
    rw [e] at this
    have h2 := List.all_eq_true.mp (show odds.all (fun o => match o with | .str z => decide (z.length ≤ 100) | _ => true) = true by decide +kernel) o ho
    rw [e] at h2
    simpa using h2
  have lW := lstr (z := w) lw (by omega)
  have lZ := lstr (z := z) z4 (by omega)
  simp only [cands, List.mem_cons, List.not_mem_nil, or_false] at hx
  rcases hx with rfl | rfl | rfl | rfl | rfl | rfl | rfl | rfl | rfl | rfl | rfl | rfl
  · refine ⟨fun ws => rfl, rbT (fun d hd => ?_) (by simp), fun qs hq => ?_⟩
    · simp only [List.mem_cons, List.not_mem_nil, or_false] at hd
      rcases hd with rfl | rfl | rfl
      · exact rw1
      · exact rz1
      · exact rz1
    · injection hq with hq
      subst hq
      refine ⟨by simp, fun y hy => ?_⟩
      simp only [List.mem_cons, List.not_mem_nil, or_false] at hy
      rcases hy with e | e | e
      · exact lW y e.symm
      · exact lZ y e.symm
      · exact lZ y e.symm
  · refine ⟨fun ws => rfl, rbT (fun d hd => ?_) (by simp), fun qs hq => ?_⟩
    · simp only [List.mem_cons, List.not_mem_nil, or_false] at hd
      rw [hd]; exact rw1
    · injection hq with hq
      subst hq
      refine ⟨by simp, fun y hy => ?_⟩
      simp only [List.mem_cons, List.not_mem_nil, or_false] at hy
      exact lW y hy.symm
  · refine ⟨fun ws => rfl, rbL (fun d hd => ?_) (by simp), fun qs hq => nomatch hq⟩
    simp only [List.mem_cons, List.not_mem_nil, or_false] at hd
    rcases hd with rfl | rfl
    · exact rw1
    · exact rz1
  · refine fit2 (fun ws => pair1_fst fun y e => ?_) rz1 rw1 lZ lW
    injection e with e
    rw [← e, z2]
    exact fun z => nomatch z.1
  · exact ⟨o1, ro.mono (by omega) (by omega), fun qs hq => ⟨(o3 qs hq).1, fun y hy => Nat.le_trans ((o3 qs hq).2 y hy) (by omega)⟩⟩
  · exact fit2 (fun ws => pair1_snd o2) rw1 ro lW lo
  · refine fit2 (fun ws => pair1_fst fun y e => ?_) (rb1 (asc_of (by decide +kernel)) (by decide +kernel)) rz1 (lstr (n := 4) (by decide +kernel) (by omega)) lZ
    injection e with e
    rw [← e, show isWord "copy" = false by decide +kernel]
    exact fun z => nomatch z.1
  · have la : (w ++ "A").length ≤ 9 := by rw [len_app]; exact Nat.add_le_add lw (show ("A" : Str).length ≤ 1 by decide +kernel)
    refine fit2 (fun ws => pair1_fst fun y e => ?_) (rb1 (asc_app aw (asc_of (by decide +kernel))) (by omega)) rz1 (lstr la (by omega)) lZ
    injection e with e
    rw [← e, isWord_A]
    exact fun z => nomatch z.1
  · have la : (z ++ " ").length ≤ 13 := by rw [len_app]; exact Nat.add_le_add z4 (show (" " : Str).length ≤ 1 by decide +kernel)
    refine fit2 (fun ws => pair1_snd fun y e => ?_) rw1 (rb1 (asc_app az (asc_of (by decide +kernel))) (by omega)) lW (lstr la (by omega))
    injection e with e
    rw [← e]
    exact z5
  · refine fit2 (fun ws => pair1_fst fun y e => ?_) (rb1 (asc_of (by decide +kernel)) (by decide +kernel)) rz1 (lstr (n := 9) (by decide +kernel) (by omega)) lZ
    injection e with e
    rw [← e, show isWord "abcdefghi" = false by decide +kernel]
    exact fun z => nomatch z.1
  · refine fit2 (fun ws => pair1_snd fun y e => ?_) rw1 (rb1 (asc_of (by decide +kernel)) (by decide +kernel)) lW (lstr (n := 2) (by decide +kernel) (by omega))
    injection e with e
    rw [← e]
    decide +kernel
  · refine fit2 (fun ws => pair1_fst fun y e => ?_) (rb1 (asc_of (by decide +kernel)) (by decide +kernel)) rz1 (lstr (n := 0) (by decide +kernel) (by omega)) lZ
    injection e with e
    rw [← e, show isWord "" = false by decide +kernel]
    exact fun z => nomatch z.1
/-- pairs that are small -/
def Small (x : PyData) : Prop := RB 4 1000 x ∧ ∀ qs, x = .tuple qs → qs.length ≤ 3 ∧ ∀ y, PyData.str y ∈ qs → y.length ≤ 100
theorem small_all {ds : List PyData} (h : ∀ d ∈ ds, Small d) (hl : ds.length ≤ 4) : Sm (.tuple ds) ∧ rpOk (.tuple ds) = true := by
  refine ⟨fun ps e => ?_, ((rb_tup (fun d hd => (h d hd).1) hl).rp (by omega) (by omega))⟩
  injection e with e
  subst e
  refine ⟨by omega, fun p hp qs hq => ?_⟩
  obtain ⟨h1, h2⟩ := (h p hp).2 qs hq
  exact ⟨by omega, fun z hz => Nat.le_trans (h2 z hz) (by omega)⟩
theorem pair_small {w z : Str} (hw : isWord w = true) (az : Asc z) (lz : z.length ≤ 40) : Small (.tuple [.str w, .str z]) := by
  have aw : Asc w := word_asc hw
  have lw := (isWord_len hw).2
  refine ⟨(rb_tup (k := 0) (n := 402) (m := 2) (fun d hd => ?_) (by simp)).mono (by omega) (by omega), fun qs hq => ?_⟩
  · simp only [List.mem_cons, List.not_mem_nil, or_false] at hd
    rcases hd with rfl | rfl
    · exact (rb_str aw lw).mono (by omega) (by omega)
    · exact (rb_str az lz).mono (by omega) (by omega)
  · injection hq with hq
    subst hq
    refine ⟨by simp, fun y hy => ?_⟩
    simp only [List.mem_cons, List.not_mem_nil, or_false] at hy
    rcases hy with e | e
    · injection e with e; rw [e]; omega
    · injection e with e; rw [e]; omega
theorem good_small {ps : List (Str × Str)} (hg : GoodP ps) : ∀ d ∈ ps.map pairD, Small d := fun d hd => by
  obtain ⟨p, hp, rfl⟩ := List.mem_map.mp hd
  obtain ⟨h1, h2⟩ := hg.ok p hp
  obtain ⟨z1, z2, z3, z4, z5⟩ := okTexts_some _ h2
  exact pair_small h1 (asc_of z3) (by omega)
theorem spoil_ok {ps : List (Str × Str)} {x : PyData} {i : Nat} (hg : GoodP ps) (hx : Fit x) (hi : i < ps.length) : areP (.tuple ((ps.take i).map pairD ++ x :: (ps.drop (i + 1)).map pairD)) = false ∧ Sm (.tuple ((ps.take i).map pairD ++ x :: (ps.drop (i + 1)).map pairD)) ∧ rpOk (.tuple ((ps.take i).map pairD ++ x :: (ps.drop (i + 1)).map pairD)) = true := by
  refine ⟨?_, small_all (fun d hd => ?_) ?_⟩
  · show (decide (_ ≤ 3) && parP _ [] []) = false
    rw [parP_bad _ _ _ _ fun ws' _ => hx.1 ws', Bool.and_false]
  · rcases List.mem_append.mp hd with hd | hd
    · obtain ⟨p, hp, rfl⟩ := List.mem_map.mp hd
      exact good_small hg _ (List.mem_map.mpr ⟨p, List.mem_of_mem_take hp, rfl⟩)
    · rcases List.mem_cons.mp hd with rfl | hd
      · exact hx.2
      · obtain ⟨p, hp, rfl⟩ := List.mem_map.mp hd
        exact good_small hg _ (List.mem_map.mpr ⟨p, List.mem_of_mem_drop hp, rfl⟩)
  · have := hg.len
    simp only [List.length_append, List.length_cons, List.length_map, List.length_take, List.length_drop]
    omega
/-! ### slices and sums of tuples -/
theorem cut_take {us : List V} {i : Nat} (hi : i ≤ us.length) : cutV us none (some (i : Int)) = us.take i := by
  unfold cutV
  rw [HT.sIx_nat, HT.sIx_none, Nat.min_eq_left hi]
  rfl
theorem cut_drop {us : List V} {i : Nat} (hi : i ≤ us.length) : cutV us (some (i : Int)) none = us.drop i := by
  unfold cutV
  rw [HT.sIx_nat, HT.sIx_none, Nat.min_eq_left hi, List.take_of_length_le (by rw [List.length_drop]; exact Nat.le_refl _)]
theorem cut_mid {us : List V} {i j : Nat} (hi : i ≤ j) (hj : j ≤ us.length) : cutV us (some (i : Int)) (some (j : Int)) = (us.drop i).take (j - i) := by
  unfold cutV
  rw [HT.sIx_nat, HT.sIx_nat, Nat.min_eq_left hj, Nat.min_eq_left (Nat.le_trans hi hj)]
theorem sl_any {K : PySem.W.Frag} {H : Hp} {a : Addr} {us ws : List V} {lo hi : Option Int} {Q : VK} (h : H a = some (.tup us)) (e : cutV us lo hi = ws) (q : ∀ p H', Same H H' → H' p = some (.tup ws) → (p = a ∨ H p = none) → Q (.ref p) H') : rSlA K (.ref a) lo hi H Q := by
  refine ⟨a, us, rfl, .inl (.inl h), fun z => ?_, fun _ p np => q p _ (same_upd np) (by rw [upd_same, e]) (.inr np)⟩
  refine q a H (Same.refl _) ?_ (.inl rfl)
  rw [h, ← e]
  unfold cutV
  rw [z.1, z.2]
  simp
theorem cat_any {K : PySem.W.Frag} {H : Hp} {a b : Addr} {xs ys : List V} {Q : VK} (ha : H a = some (.tup xs)) (hb : H b = some (.tup ys)) (hl : xs.length + ys.length ≤ 1000) (q : ∀ p H', Same H H' → H' p = some (.tup (xs ++ ys)) → (p = a ∨ p = b ∨ H p = none) → Q (.ref p) H') : rCatA K (.ref a) (.ref b) H Q := by
  refine ⟨a, b, xs, ys, rfl, rfl, .inl (.inl ha), .inl (.inl hb), Nat.le_trans hl (by decide), fun z => ?_, fun _ z => ?_, fun _ _ p np => q p _ (same_upd np) upd_same (.inr (.inr np))⟩
  · exact q b H (Same.refl _) (by rw [hb, z]; rfl) (.inr (.inl rfl))
  · exact q a H (Same.refl _) (by rw [ha, z, List.append_nil]) (.inl rfl)
/-! ### data at hand -/
structure Wk (st g l : Addr) (N : List Addr) (H0 H : Hp) (xs : List V) (ds : List PyData) : Prop where
  S : StAt H st g l
  k : Kp st g l H0 H
  hN : ∀ n ∈ N, ∃ o, H n = some o
  D : DtVs N H xs ds
theorem _root_.Ur.DtVs.app {N : List Addr} {H : Hp} : ∀ {xs ys : List V} {ds es : List PyData}, DtVs N H xs ds → DtVs N H ys es → DtVs N H (xs ++ ys) (ds ++ es)
  | [], _, _, _, .nil, h => h
  | _ :: _, _, _, _, .cons h r, k => .cons h (Ur.DtVs.app r k)
theorem _root_.Ur.DtVs.take {N : List Addr} {H : Hp} : ∀ {xs : List V} {ds : List PyData} (i : Nat), DtVs N H xs ds → DtVs N H (xs.take i) (ds.take i)
  | _, _, 0, _ => by rw [List.take_zero, List.take_zero]; exact .nil
  | [], _, _ + 1, .nil => .nil
  | _ :: _, _, i + 1, .cons h r => .cons h (Ur.DtVs.take i r)
theorem _root_.Ur.DtVs.drop {N : List Addr} {H : Hp} : ∀ {xs : List V} {ds : List PyData} (i : Nat), DtVs N H xs ds → DtVs N H (xs.drop i) (ds.drop i)
  | _, _, 0, h => h
  | [], _, _ + 1, .nil => .nil
  | _ :: _, _, i + 1, .cons _ r => Ur.DtVs.drop i r
theorem Wk.fresh {st g l : Addr} {N : List Addr} {H0 H : Hp} {xs : List V} {ds : List PyData} (W : Wk st g l N H0 H xs ds) {a : Addr} (na : H a = none) : a ∉ N := fun z => by
  obtain ⟨o, h⟩ := W.hN a z
  rw [na] at h
  cases h
theorem Wk.same {st g l : Addr} {N : List Addr} {H0 H H1 : Hp} {xs : List V} {ds : List PyData} (W : Wk st g l N H0 H xs ds) (s : Same H H1) : Wk st g l N H0 H1 xs ds :=
  ⟨W.S.same s, W.k.trans (Kp.of s), fun n hn => (W.hN n hn).imp fun o h => s _ _ h, W.D.same s⟩
theorem Wk.tup {st g l : Addr} {N : List Addr} {H0 H : Hp} {xs ys : List V} {ds es : List PyData} (W : Wk st g l N H0 H xs ds) {a : Addr} (na : H a = none) (h : DtVs N H ys es) : Wk st g l N H0 (upd H a (.tup ys)) (xs ++ [.ref a]) (ds ++ [.tuple es]) :=
  have s := same_upd (o := .tup ys) na
  have V := W.same s
  ⟨V.S, V.k, V.hN, V.D.app (.cons (.tup upd_same (W.fresh na) (h.same s)) .nil)⟩
theorem Wk.lst {st g l : Addr} {N : List Addr} {H0 H : Hp} {xs ys : List V} {ds es : List PyData} (W : Wk st g l N H0 H xs ds) {a : Addr} (na : H a = none) (h : DtVs N H ys es) : Wk st g l N H0 (upd H a (.lst ys)) (xs ++ [.ref a]) (ds ++ [.list es]) :=
  have s := same_upd (o := .lst ys) na
  have V := W.same s
  ⟨V.S, V.k, V.hN, V.D.app (.cons (.lst upd_same (W.fresh na) (h.same s)) .nil)⟩
mutual
theorem _root_.Ur.DtV.far {N M : List Addr} {H : Hp} (h : ∀ b o, H b = some o → b ∉ N → b ∉ M) : ∀ {v : V} {d : PyData}, DtV N H v d → DtV M H v d
  | _, _, .non => .non
  | _, _, .bl b => .bl b
  | _, _, .int i => .int i
  | _, _, .str z => .str z
  | _, _, .lst e n r => .lst e (h _ _ e n) (Ur.DtVs.far h r)
  | _, _, .tup e n r => .tup e (h _ _ e n) (Ur.DtVs.far h r)
theorem _root_.Ur.DtVs.far {N M : List Addr} {H : Hp} (h : ∀ b o, H b = some o → b ∉ N → b ∉ M) : ∀ {xs : List V} {ds : List PyData}, DtVs N H xs ds → DtVs M H xs ds
  | _, _, .nil => .nil
  | _, _, .cons e r => .cons (Ur.DtV.far h e) (Ur.DtVs.far h r)
end
/-- a new list that will change -/
theorem Wk.own {st g l : Addr} {N : List Addr} {H0 H : Hp} {xs : List V} {ds : List PyData} (W : Wk st g l N H0 H xs ds) {a : Addr} {o : HO} (na : H a = none) : Wk st g l (a :: N) H0 (upd H a o) xs ds := by
  have V := W.same (same_upd (o := o) na)
  refine ⟨V.S, V.k, fun n hn => ?_, (W.D.far (M := a :: N) fun b o' e n z => ?_).same (same_upd na)⟩
  · rcases List.mem_cons.mp hn with rfl | hn
    · exact ⟨_, upd_same⟩
    · exact V.hN n hn
  · rcases List.mem_cons.mp z with rfl | z
    · rw [na] at e; cases e
    · exact n z
theorem Wk.mut {st g l : Addr} {N : List Addr} {H0 H : Hp} {xs : List V} {ds : List PyData} (W : Wk st g l N H0 H xs ds) {a : Addr} {o : HO} (ha : a ∈ N) (h0 : H0 a = none) (h1 : a ≠ st) (h2 : a ≠ g) (h3 : a ≠ l) : Wk st g l N H0 (upd H a o) xs ds := by
  refine ⟨W.S.upd h1 h2 h3, fun b o' e n1 n2 n3 => ?_, fun n hn => ?_, W.D.keep fun b o' e n => ?_⟩
  · rw [upd_ne (ne_of_none e h0)]
    exact W.k b o' e n1 n2 n3
  · by_cases e : n = a
    · exact ⟨o, by rw [e]; exact upd_same⟩
    · obtain ⟨o', h⟩ := W.hN n hn
      exact ⟨o', by rw [upd_ne e]; exact h⟩
  · rw [upd_ne (show b ≠ a from fun z => n (by rw [z]; exact ha))]
    exact e
/-- after a draw -/
theorem Wk.kp {st g l : Addr} {N : List Addr} {H0 H H1 : Hp} {xs : List V} {ds : List PyData} (W : Wk st g l N H0 H xs ds) (hN : st ∈ N ∧ g ∈ N ∧ l ∈ N) (k : Kp st g l H H1) (S1 : StAt H1 st g l) : Wk st g l N H0 H1 xs ds := by
  refine ⟨S1, W.k.trans k, fun n hn => ?_, W.D.keep fun b o e n => k b o e (fun z => n (z ▸ hN.1)) (fun z => n (z ▸ hN.2.1)) (fun z => n (z ▸ hN.2.2))⟩
  obtain ⟨o, h⟩ := W.hN n hn
  obtain ⟨⟨_, _, _, _, y1, y2, y3, _⟩, _⟩ := id S1
  by_cases e1 : n = st
  · rw [e1]; exact ⟨_, y1⟩
  by_cases e2 : n = g
  · rw [e2]; exact ⟨_, y2⟩
  by_cases e3 : n = l
  · rw [e3]; exact ⟨_, y3⟩
  exact ⟨o, k _ _ h e1 e2 e3⟩
theorem Wk.start {st g l : Addr} {H0 H : Hp} {xs : List V} {ds : List PyData} (S : StAt H st g l) (k : Kp st g l H0 H) (D : DtVs [st, g, l] H xs ds) : Wk st g l [st, g, l] H0 H xs ds := by
  refine ⟨S, k, fun n hn => ?_, D⟩
  obtain ⟨⟨_, _, _, _, y1, y2, y3, _⟩, _⟩ := id S
  simp only [List.mem_cons, List.not_mem_nil, or_false] at hn
  rcases hn with rfl | rfl | rfl
  · exact ⟨_, y1⟩
  · exact ⟨_, y2⟩
  · exact ⟨_, y3⟩
theorem DtV.tup2 {N : List Addr} {H : Hp} {v : V} {p : Str × Str} (h : DtV N H v (pairD p)) : ∃ a, v = .ref a ∧ H a = some (.tup [.str p.1, .str p.2]) ∧ a ∉ N := by
  cases h with
  | tup e n r =>
    cases r with
    | cons h1 r =>
      cases r with
      | cons h2 r =>
        cases r
        cases h1
        cases h2
        exact ⟨_, rfl, e, n⟩
end Up

namespace Ve
open PySem PySem.Spec PyProof.Rows L2 Ub Ur Ug Ue Up Uo
/-! ### lists of trees -/
def TsAt (H : Hp) : List V → List Tr → Prop
  | [], [] => True
  | v :: vs, t :: ts => TrAt H t v ∧ TsAt H vs ts
  | [], _ :: _ => False
  | _ :: _, [] => False
theorem TsAt.len {H : Hp} : ∀ {vs : List V} {ts : List Tr}, TsAt H vs ts → vs.length = ts.length
  | [], [], _ => rfl
  | _ :: _, _ :: _, h => congrArg Nat.succ (TsAt.len h.2)
  | [], _ :: _, h => h.elim
  | _ :: _, [], h => h.elim
theorem TsAt.tups {H H' : Hp} (s : ∀ c xs, H c = some (.tup xs) → H' c = some (.tup xs)) : ∀ {vs : List V} {ts : List Tr}, TsAt H vs ts → TsAt H' vs ts
  | [], [], _ => trivial
  | _ :: _, _ :: _, h => ⟨h.1.tups s, TsAt.tups s h.2⟩
  | [], _ :: _, h => h.elim
  | _ :: _, [], h => h.elim
theorem TsAt.same {H H' : Hp} (s : Same H H') {vs : List V} {ts : List Tr} (h : TsAt H vs ts) : TsAt H' vs ts := h.tups fun c xs e => s _ _ e
theorem TsAt.snoc {H : Hp} {v : V} {t : Tr} (hv : TrAt H t v) : ∀ {vs : List V} {ts : List Tr}, TsAt H vs ts → TsAt H (vs ++ [v]) (ts ++ [t])
  | [], [], _ => ⟨hv, trivial⟩
  | _ :: _, _ :: _, h => ⟨h.1, TsAt.snoc hv h.2⟩
  | [], _ :: _, h => h.elim
  | _ :: _, [], h => h.elim
theorem TsAt.get {H : Hp} : ∀ {vs : List V} {ts : List Tr} {i : Nat} {v : V}, TsAt H vs ts → vs[i]? = some v → ∃ t, ts[i]? = some t ∧ TrAt H t v
  | v0 :: _, t0 :: _, 0, v, h, e => by
    rw [List.getElem?_cons_zero] at e
    cases e
    exact ⟨t0, rfl, h.1⟩
  | _ :: vs, _ :: ts, i + 1, v, h, e => by
    rw [List.getElem?_cons_succ] at e
    obtain ⟨t, h1, h2⟩ := TsAt.get h.2 e
    exact ⟨t, by rw [List.getElem?_cons_succ]; exact h1, h2⟩
  | [], _, i, v, _, e => by simp at e
  | _ :: _, [], _, _, h, _ => h.elim
theorem good_nil : good .nil := ⟨.inl rfl, by decide, by decide⟩
theorem kp_tups {st g l : Addr} {H H' : Hp} (S : StAt H st g l) (k : Kp st g l H H') : ∀ c xs, H c = some (.tup xs) → H' c = some (.tup xs) := fun c xs e => by
  obtain ⟨⟨_, _, _, _, h1, h2, h3, _⟩, _⟩ := S
  refine k c _ e (fun z => ?_) (fun z => ?_) (fun z => ?_)
  · rw [z, h1] at e; cases e
  · rw [z, h2] at e; cases e
  · rw [z, h3] at e; cases e
/-! ### odd values are no list of texts -/
def hst : List PyData → Bool
  | .str _ :: _ => false
  | _ => true
mutual
def nsl : PyData → Bool
  | .list ds => hst ds && nsls ds
  | .tuple ds => nsls ds
  | _ => true
def nsls : List PyData → Bool
  | [] => true
  | d :: ds => nsl d && nsls ds
end
theorem odds_nsl : ∀ d ∈ odds, nsl d = true := List.all_eq_true.mp (by decide +kernel)
mutual
theorem avoid {N : List Addr} {H : Hp} {b : Addr} {z : Str} {r : List V} (hb : H b = some (.lst (.str z :: r))) : ∀ {v : V} {d : PyData}, DtV N H v d → nsl d = true → DtV (b :: N) H v d
  | _, _, .non, _ => .non
  | _, _, .bl x, _ => .bl x
  | _, _, .int i, _ => .int i
  | _, _, .str y, _ => .str y
  | _, _, .lst (p := p) (xs := xs) (ds := ds) h n q, k => by
    have k : (hst ds && nsls ds) = true := by simpa only [nsl] using k
    obtain ⟨k1, k2⟩ := Bool.and_eq_true_iff.mp k
    refine .lst h (fun z => ?_) (avoids hb q k2)
    rcases List.mem_cons.mp z with e | e
    · rw [e, hb] at h
      cases h
      cases q with
      | cons a b =>
        cases a
        cases k1
    · exact n e
  | _, _, .tup (p := p) (xs := xs) (ds := ds) h n q, k => by
    have k : nsls ds = true := by simpa only [nsl] using k
    refine .tup h (fun z => ?_) (avoids hb q k)
    rcases List.mem_cons.mp z with e | e
    · rw [e, hb] at h
      cases h
    · exact n e
theorem avoids {N : List Addr} {H : Hp} {b : Addr} {z : Str} {r : List V} (hb : H b = some (.lst (.str z :: r))) : ∀ {xs : List V} {ds : List PyData}, DtVs N H xs ds → nsls ds = true → DtVs (b :: N) H xs ds
  | _, _, .nil, _ => .nil
  | _, _, .cons h q, k => by
    simp only [nsls, Bool.and_eq_true] at k
    obtain ⟨k1, k2⟩ := k
    exact .cons (avoid hb h k1) (avoids hb q k2)
end
/-! ### trees as data -/
def trF : Tr → List PyData
  | .nil => []
  | .cons w t r => .tuple [.str w, .tuple (trF t)] :: trF r
def trD (t : Tr) : PyData := .tuple (trF t)
theorem fs_dp {K : PySem.W.Frag} {H : Hp} : ∀ {t : Tr} {ps : List V}, FsAt H t ps → DpAll K H ps (trF t)
  | .nil, ps, h => by
    have e : ps = [] := h
    subst e
    exact .nil
  | .cons w t r, ps, h => by
    obtain ⟨p, q, qs, rfl, h2, ⟨a, ps', rfl, h3, h4⟩, h5⟩ := h
    exact .cons (.tup (.inl (.inl h2)) (.cons (.str w) (.cons (.tup (.inl (.inl h3)) (fs_dp h4)) .nil))) (fs_dp h5)
theorem tr_dp {K : PySem.W.Frag} {H : Hp} {t : Tr} {v : V} (h : TrAt H t v) : Dp K H v (trD t) := by
  obtain ⟨a, ps, rfl, h1, h2⟩ := h
  exact .tup (.inl (.inl h1)) (fs_dp h2)
theorem trF_eq : ∀ (t u : Tr), PyData.eqvAll (trF t) (trF u) = true ↔ t = u
  | .nil, .nil => by simp [trF, PyData.eqvAll]
  | .nil, .cons _ _ _ => by simp [trF, PyData.eqvAll]
  | .cons _ _ _, .nil => by simp [trF, PyData.eqvAll]
  | .cons w t r, .cons w' t' r' => by
    have h1 := trF_eq t t'
    have h2 := trF_eq r r'
    simp only [trF, PyData.eqvAll, PyData.eqv, Bool.and_true, Bool.and_eq_true, beq_iff_eq, h1, h2]
    constructor
    · rintro ⟨⟨rfl, rfl⟩, rfl⟩
      rfl
    · intro e
      cases e
      exact ⟨⟨rfl, rfl⟩, rfl⟩
theorem trD_eq (t u : Tr) : PyData.eqv (trD t) (trD u) = true ↔ t = u := by
  unfold trD
  rw [show PyData.eqv (.tuple (trF t)) (.tuple (trF u)) = PyData.eqvAll (trF t) (trF u) by simp [PyData.eqv]]
  exact trF_eq t u
theorem trF_lay : ∀ {t : Tr}, W t → PyData.canLayAll0 (trF t) = true
  | .nil, _ => by simp [trF, PyData.canLayAll0]
  | .cons w t r, ⟨a, _, c, d⟩ => by
    simp only [trF, PyData.canLayAll0, PyData.canLay0, strOk_asc (word_asc a), trF_lay c, trF_lay d, Bool.and_self]
theorem trF_dep : ∀ t : Tr, PyData.depthAll (trF t) ≤ 2 * t.sdep + 2
  | .nil => by simp [trF, PyData.depthAll]
  | .cons w t r => by
    have h1 := trF_dep t
    have h2 := trF_dep r
    have e : (Tr.cons w t r).sdep = max (if t.isNil then 0 else 1 + t.sdep) r.sdep := rfl
    rw [e]
    have e2 : PyData.depthAll (trF (.cons w t r)) = max (max 0 (max (PyData.depthAll (trF t) + 1) 0) + 1) (PyData.depthAll (trF r)) := by simp [trF, PyData.depthAll, PyData.depth]
    rw [e2]
    cases t with
    | nil =>
      have e3 : PyData.depthAll (trF .nil) = 0 := by simp [trF, PyData.depthAll]
      rw [e3]
      show _ ≤ 2 * max 0 r.sdep + 2
      omega
    | cons a b c =>
      show _ ≤ 2 * max (1 + (Tr.cons a b c).sdep) r.sdep + 2
      omega
theorem trD_shaped {t : Tr} (h : good t) : SeqAt.shaped (trD t) = true := by
  have h1 := (good_has h).1
  have h2 := trF_dep t
  have h3 : t.sdep ≤ 3 := by
    cases t with
    | nil => decide
    | cons a b c =>
      have : (Tr.cons a b c).depth = 1 + (Tr.cons a b c).sdep := rfl
      omega
  unfold SeqAt.shaped trD
  rw [show PyData.canLay0 (.tuple (trF t)) = PyData.canLayAll0 (trF t) by simp [PyData.canLay0], trF_lay (good_W h), show PyData.depth (.tuple (trF t)) = PyData.depthAll (trF t) + 1 by simp [PyData.depth]]
  simp only [Bool.true_and, decide_eq_true_eq]
  omega
theorem strs_dep : ∀ l : List Str, PyData.depthAll (l.map PyData.str) = 0
  | [] => by simp [PyData.depthAll]
  | z :: l => by simp [PyData.depthAll, PyData.depth, strs_dep l]
theorem strs_shaped {l : List Str} (h : ∀ z ∈ l, Asc z) : SeqAt.shaped (.list (l.map PyData.str)) = true := by
  unfold SeqAt.shaped
  rw [show PyData.canLay0 (.list (l.map PyData.str)) = PyData.canLayAll0 (l.map PyData.str) by simp [PyData.canLay0], canLayAll_strs', show PyData.depth (.list (l.map PyData.str)) = PyData.depthAll (l.map PyData.str) + 1 by simp [PyData.depth], strs_dep]
  rw [List.all_eq_true.mpr fun z hz => strOk_asc (h z hz)]
  rfl
theorem pks_asc {t : Tr} (h : good t) : ∀ z ∈ pks t, Asc z := fun z hz => by
  obtain ⟨m, hm, rfl⟩ := List.mem_map.mp hz
  exact (paths_good 3 (good_has h).1 h m hm).a
theorem due_shaped {o : Option Tr} (h : ∀ b, o = some b → good b) : SeqAt.shaped (dueD o) = true := by
  cases o with
  | none => decide +kernel
  | some b =>
    have hg := h b rfl
    have h1 := strs_shaped (pks_asc hg)
    unfold SeqAt.shaped at h1 ⊢
    obtain ⟨a1, a2⟩ := Bool.and_eq_true_iff.mp h1
    have a1 : PyData.canLayAll0 ((pks b).map PyData.str) = true := by simpa [PyData.canLay0] using a1
    have e : PyData.canLay0 (dueD (some b)) = true := by
      simp only [dueD, PyData.canLay0, PyData.canLayAll0, strOk_asc (text_asc hg.1), a1, Bool.and_self, Bool.and_true]
      decide +kernel
    rw [e]
    simp only [dueD, PyData.depth, PyData.depthAll, strs_dep]
    rfl
theorem due_eqv {o : Option Tr} (h : ∀ b, o = some b → good b) : PyData.eqv (dueD o) (dueD o) = true := SeqAt.eqv_refl _ (SeqAt.canLay_of_shaped (due_shaped h))
theorem strs_eqv {l : List Str} (h : ∀ z ∈ l, Asc z) : PyData.eqv (.list (l.map PyData.str)) (.list (l.map PyData.str)) = true := SeqAt.eqv_refl _ (SeqAt.canLay_of_shaped (strs_shaped h))
theorem good_text {t u : Tr} (h : good t) (k : good u) : t.text = u.text ↔ t = u := by
  constructor
  · intro e
    have h1 := shapeOf_in h
    rw [e, shapeOf_in k] at h1
    exact (Option.some.inj h1).symm
  · rintro rfl
    rfl
/-! ### texts near a path -/
def near7 (z : Str) : List Str := [cutS z (some 1) none, z ++ ".", z ++ " ", cutS z none (some (-1)), z ++ ".a", ("." : Str) ++ z, Txt.mul z 2]
theorem cut_any (z : Str) (lo hi : Option Int) : (cutS z lo hi).length ≤ z.length := by
  unfold cutS
  show (List.toArray _).size ≤ _
  rw [List.size_toArray, List.length_take, List.length_drop]
  have : z.cps.toList.length = z.length := len_toList z
  omega
theorem near_ok {z : Str} (h : Asc z) (hl : z.length ≤ 28) : ∀ y ∈ near7 z, y.length ≤ 100 ∧ Asc y := by
  intro y hy
  have e1 : ((" " : Str)).length = 1 := by decide +kernel
  have e2 : ((".a" : Str)).length = 2 := by decide +kernel
  have c1 := cut_any z (some 1) none
  have c2 := cut_any z none (some (-1))
  have m2 := mulLen z 2
  have m2' : (Txt.mul z 2).length = z.length * 2 := m2
  unfold near7 at hy
  simp only [List.mem_cons, List.not_mem_nil, or_false] at hy
  rcases hy with rfl | rfl | rfl | rfl | rfl | rfl | rfl
  · exact ⟨by omega, asc_cut h⟩
  · exact ⟨by rw [len_app, dot_len]; omega, asc_app h (asc_of (by decide +kernel))⟩
  · exact ⟨by rw [len_app, e1]; omega, asc_app h (asc_of (by decide +kernel))⟩
  · exact ⟨by omega, asc_cut h⟩
  · exact ⟨by rw [len_app, e2]; omega, asc_app h (asc_of (by decide +kernel))⟩
  · exact ⟨by rw [len_app, dot_len]; omega, asc_app (asc_of (by decide +kernel)) h⟩
  · exact ⟨by omega, asc_mul h⟩
/-- the list of what is asked, so far texts -/
structure As (H : Hp) (p : Addr) (ws : List Str) (n : Nat) : Prop where
  at_ : H p = some (.lst (ws.map V.str))
  ok : ∀ z ∈ ws, z.length ≤ 100 ∧ Asc z
  len : ws.length ≤ n
  hd : ws = [] ∨ ∃ r, ws = ("." : Str) :: r
theorem As.snoc {H : Hp} {p : Addr} {ws : List Str} {n : Nat} {z : Str} (h : As H p ws n) (hz : z.length ≤ 100 ∧ Asc z) (hh : ws = [] → z = ".") {H' : Hp} (e : H' p = some (.lst (ws.map V.str ++ [.str z]))) : As H' p (ws ++ [z]) (n + 1) := by
  refine ⟨by rw [e, List.map_append]; rfl, fun y hy => ?_, by rw [List.length_append]; have := h.len; exact Nat.succ_le_succ this, ?_⟩
  · rcases List.mem_append.mp hy with hy | hy
    · exact h.ok y hy
    · have e : y = z := by simpa using hy
      rw [e]
      exact hz
  · right
    rcases h.hd with e | ⟨r, e⟩
    · rw [hh e, e]
      exact ⟨[], rfl⟩
    · exact ⟨r ++ [z], by rw [e]; rfl⟩
theorem As.to {H H' : Hp} {p : Addr} {ws : List Str} {n m : Nat} (h : As H p ws n) (e : H' p = some (.lst (ws.map V.str))) (hm : n ≤ m) : As H' p ws m := ⟨e, h.ok, Nat.le_trans h.len hm, h.hd⟩
theorem sn_ne {α : Type} {l : List α} {z : α} : l ++ [z] ≠ [] := by simp
/-- an odd value, none of whose places is of N -/
def sp_oddN : Sp := fun vs H Q _ => ∃ (st g l : Addr) (N : List Addr), vs = [.ref st] ∧ StAt H st g l ∧ (∀ n ∈ N, ∃ o, H n = some o) ∧ ∀ v H', OddAt N H' v → StAt H' st g l → Kp st g l H H' → Q v H'
theorem odds_shp : ∀ d ∈ odds, SeqAt.shaped d = true := List.all_eq_true.mp (by decide +kernel)
/-! ### lists of shapes -/
abbrev AllZ : Addr → Prop := fun _ => True
def SsAt (C : Addr) (H : Hp) : List V → List Sg → Prop
  | [], [] => True
  | v :: vs, g :: gs => (∃ x, v = .ref x ∧ ShG AllZ C H x g) ∧ SsAt C H vs gs
  | [], _ :: _ => False
  | _ :: _, [] => False
theorem SsAt.len {C : Addr} {H : Hp} : ∀ {vs : List V} {gs : List Sg}, SsAt C H vs gs → vs.length = gs.length
  | [], [], _ => rfl
  | _ :: _, _ :: _, h => congrArg Nat.succ (SsAt.len h.2)
  | [], _ :: _, h => h.elim
  | _ :: _, [], h => h.elim
theorem SsAt.kz {C : Addr} {H H' : Hp} (k : Kz AllZ H H') : ∀ {vs : List V} {gs : List Sg}, SsAt C H vs gs → SsAt C H' vs gs
  | [], [], _ => trivial
  | _ :: _, _ :: _, h => ⟨h.1.imp fun x e => ⟨e.1, e.2.kz k⟩, SsAt.kz k h.2⟩
  | [], _ :: _, h => h.elim
  | _ :: _, [], h => h.elim
theorem SsAt.same {C : Addr} {H H' : Hp} (s : Same H H') {vs : List V} {gs : List Sg} (h : SsAt C H vs gs) : SsAt C H' vs gs := h.kz (kz_of s)
theorem SsAt.snoc {C : Addr} {H : Hp} {x : Addr} {g : Sg} (hx : ShG AllZ C H x g) : ∀ {vs : List V} {gs : List Sg}, SsAt C H vs gs → SsAt C H (vs ++ [.ref x]) (gs ++ [g])
  | [], [], _ => ⟨⟨x, rfl, hx⟩, trivial⟩
  | _ :: _, _ :: _, h => ⟨h.1, SsAt.snoc hx h.2⟩
  | [], _ :: _, h => h.elim
  | _ :: _, [], h => h.elim
theorem SsAt.get {C : Addr} {H : Hp} : ∀ {vs : List V} {gs : List Sg} {i : Nat} {v : V}, SsAt C H vs gs → vs[i]? = some v → ∃ g x, gs[i]? = some g ∧ v = .ref x ∧ ShG AllZ C H x g
  | v0 :: _, g0 :: _, 0, v, h, e => by
    rw [List.getElem?_cons_zero] at e
    cases e
    obtain ⟨x, h1, h2⟩ := h.1
    exact ⟨g0, x, rfl, h1, h2⟩
  | _ :: vs, _ :: gs, i + 1, v, h, e => by
    rw [List.getElem?_cons_succ] at e
    obtain ⟨g, x, h1, h2⟩ := SsAt.get h.2 e
    exact ⟨g, x, by rw [List.getElem?_cons_succ]; exact h1, h2⟩
  | [], _, i, v, _, e => by simp at e
  | _ :: _, [], _, _, h, _ => h.elim
theorem kz_mut {H : Hp} {D : Addr} {xs ys : List V} (h : H D = some (.lst xs)) : Kz AllZ H (upd H D (.lst ys)) := fun b o e n _ => by
  rw [upd_ne (fun z => by rw [z, h] at e; cases e; exact n _ rfl)]
  exact e
/-- whatever is asked of a tree -/
theorem asks_of {K : PySem.W.Frag} {H : Hp} {t : Tr} {y : V} {d : PyData} (hg : good t) (h : DtV [] H y d) : ∃ o, Asks K H t y o ∧ (∀ b, o = some b → good b) ∧ ((∃ z : Str, y = .str z) ∨ NotStr K H y) := by
  rcases h.strOr (K := K) with ⟨z, _, rfl⟩ | ⟨_, hn⟩
  · by_cases hz : z ∈ pks t
    · obtain ⟨m, hm, rfl⟩ := List.mem_map.mp hz
      exact ⟨some m.2, .inl ⟨m, hm, rfl, rfl⟩, fun b e => by cases e; exact (paths_good 3 (good_has hg).1 hg m hm).g, .inl ⟨_, rfl⟩⟩
    · exact ⟨none, .inr ⟨.inr ⟨z, rfl, hz⟩, rfl⟩, (fun b e => nomatch e), .inl ⟨_, rfl⟩⟩
  · exact ⟨none, .inr ⟨.inl hn, rfl⟩, (fun b e => nomatch e), .inr hn⟩
theorem Asks.same {K : PySem.W.Frag} {H H' : Hp} {t : Tr} {y : V} {o : Option Tr} {d : PyData} (hd : DtV [] H y d) (s : Same H H') (h : Asks K H t y o) : Asks K H' t y o := by
  rcases h with h | ⟨h | h, e⟩
  · exact .inl h
  · exact .inr ⟨.inl (notStr_same hd s h), e⟩
  · exact .inr ⟨.inr h, e⟩
end Ve

namespace Ve
open PySem PySem.Spec PyProof.Rows L2 Ub Ur Ug Ue Up Uo Vk
/-! ### a comprehension over a dict's items -/
theorem lcI {g : TG} {tt : TT} {te : TE} {vs : List Nat} {σ : L2.St} {H1 : Hp} {D d : Addr} {o : Obj} {kvs : List (Key × V)} {Qd : Hp → Prop} {α : Type} (ms : List α) (hl : ms.length = kvs.length) (h : α → Option V) (hd : H1 d = some (.frz o (.dK kvs))) (hz : kvs.length ≤ sizeLine) (hD : H1 D = none)
    (turn : ∀ (i : Nat) k v m T H, kvs[i]? = some (k, v) → ms[i]? = some m → Same H1 H → H T = some (.tup [kV k, v]) → LcTurn g tt te vs σ (fun _ => h m) (.ref T) H)
    (done : ∀ H', Same H1 H' → H' D = some (.lst (ms.filterMap h)) → Qd H') :
    ∃ W : Nat → Nat → Hp → Prop, (∃ m, W 0 m (upd H1 D (.lst []))) ∧ ∀ i m H, W i m H →
      ((Iti d o kvs).stop i H ∧ Qd H) ∨ ((Iti d o kvs).go i H ∧ ∃ Nx : Hp → Prop, (∀ H', Nx H' → ∃ m', m' < m ∧ W (i + 1) m' H') ∧ ∀ x H', (Iti d o kvs).yld i H x H' → g x (wipe σ vs) H' fun σ2 H2 => wipe σ2 vs = wipe σ vs ∧ tt σ2 H2 fun b H3 =>
        if b = true then te σ2 H3 fun y H4 => ∃ acc, H4 D = some (.lst acc) ∧ acc.length < sizeLine ∧ Nx (upd H4 D (.lst (acc ++ [y]))) else Nx H3) :=
  lc_it (walk_items (d := d) (o := o) (kvs := kvs)) (fun i H => Same H1 H ∧ H D = some (.lst ((ms.take i).filterMap h))) ⟨same_upd hD, upd_same⟩ (fun i H _ p => p.1 _ _ hd) (fun i x H H' hi p y => by
    obtain ⟨T, kx, v, rfl, nT, rfl, e1, e2⟩ := y
    have him : i < ms.length := by omega
    have hm : ms[i]? = some ms[i] := List.getElem?_eq_getElem him
    have hk : kvs[i]? = some kvs[i] := List.getElem?_eq_getElem hi
    have e1 : (kvs[i]?.map fun kv => kV kv.1) = some kx := e1
    have e2 : kvs[i]?.map Prod.snd = some v := e2
    rw [hk] at e1 e2
    cases e1
    cases e2
    have sT := same_upd (o := .tup [kV kvs[i].1, kvs[i].2]) nT
    have et : (ms.take (i + 1)).filterMap h = (ms.take i).filterMap h ++ (h ms[i]).toList := by
      rw [List.take_add_one, hm, List.filterMap_append]
      cases e : h ms[i] <;> simp [e]
    have ln : ((ms.take i).filterMap h).length ≤ i := by
      have := List.length_filterMap_le h (ms.take i)
      rw [List.length_take] at this
      omega
    refine turn i kvs[i].1 kvs[i].2 _ T _ hk hm (p.1.trans sT) upd_same (fun y H4 => ∃ acc, H4 D = some (.lst acc) ∧ acc.length < sizeLine ∧ (Same H1 (upd H4 D (.lst (acc ++ [y]))) ∧ (upd H4 D (.lst (acc ++ [y]))) D = some (.lst ((ms.take (i + 1)).filterMap h)))) (fun H3 => Same H1 H3 ∧ H3 D = some (.lst ((ms.take (i + 1)).filterMap h))) (fun y H' e s' => ?_) (fun H' e s' => ?_)
    · have e : h ms[i] = some y := e
      refine ⟨_, s' _ _ (sT _ _ p.2), by omega, fun b o q => ?_, ?_⟩
      · rw [upd_ne (ne_of_none q hD)]
        exact s' _ _ (sT _ _ (p.1 _ _ q))
      · rw [upd_same, et, e]
        rfl
    · have e : h ms[i] = none := e
      refine ⟨(p.1.trans sT).trans s', ?_⟩
      rw [et, e, s' _ _ (sT _ _ p.2)]
      simp) (fun H p => done H p.1 (by have := p.2; rwa [← hl, List.take_length] at this))
/-! ### what a shape tells -/
/-- a property -/
def sp_shP (C : Addr) (f : Tr → V) : Sp := fun vs H Q _ => ∃ x g Z, vs = [.ref x] ∧ ShG Z C H x g ∧ good g.tr ∧ ∀ H', Same H H' → Q (f g.tr) H'
/-- the paths of records (b = false), of plain values (b = true) -/
def kindP (b : Bool) (t : Tr) : List Str := ((paths t).filter fun m => m.2.isNil == b).map (·.1)
def sp_kindP (C : Addr) (b : Bool) : Sp := fun vs H Q _ => ∃ x g Z, vs = [.ref x] ∧ ShG Z C H x g ∧ good g.tr ∧ ∀ D H', Same H H' → H D = none → H' D = some (.lst ((kindP b g.tr).map V.str)) → Q (.ref D) H'
def sp_strS (C : Addr) : Sp := fun vs H Q _ => ∃ x g Z, vs = [.ref x] ∧ ShG Z C H x g ∧ Q (.str g.tr.text) H
theorem fm_kind (b : Bool) (t : Tr) : (paths t).filterMap (fun m => if (m.2.isNil == b) = true then some (V.str m.1) else none) = (kindP b t).map V.str := by
  unfold kindP
  rw [List.map_map]
  generalize paths t = l
  induction l with
  | nil => rfl
  | cons m r ih =>
    rw [List.filterMap_cons, List.filter_cons]
    by_cases h : (m.2.isNil == b) = true
    · rw [if_pos h, if_pos h, List.map_cons, ih]
      rfl
    · rw [if_neg h, if_neg h, ih]
/-! ### o.m() -/
theorem pe_meth0K {X : Cx} {CX : CXT} {k : Nat} {C : Addr} {m : Str} {ps : List Str} {sp : Sp} {o : Expr} {ta : TE} {apos pos : Pos} {E : XK} {pl : Sem Bool} (c : CalK X.prog X.w X.K X.mg X.base CX k C m ps sp) (cl : Cls X.K C) (hr : Room k X.A) (hx : Passes CX X E) (he : PE X o ta)
    (ht : eval (.Call (.Attribute o m apos) [] [] pos) X.env = (do
      let ov ← eval o X.env
      standAt apos.atName
      let (f, first) ← holding [ov] (getMethod ov m pl)
      callWith pos f first (backTo pos (starEach [] X.env)) (backToKw pos (keywordEach [] X.env))) := by rfl) :
    PE X (.Call (.Attribute o m apos) [] [] pos) (tMeth C m sp [] E ta tNil) := by
  obtain ⟨f, fd, M, _, F, hb⟩ := c.ex
  exact pe_meth0 (pl := pl) he cl M F hr hb .nil hx ht
/-! ### a tuple turned about -/
section
variable {pg : Program} {wd : World} {Ar : Around} {Ex : Value → Shared → Prop} {sh : Shared}
theorem back_adjust (n : Nat) : Builtin.Slice.sliceAdjust none none (-1) (n : Int) = ((n : Int) - 1, -1) := rfl
theorem back_places (n : Nat) : Builtin.Slice.slicePlaces ((n : Int) - 1) (-1) (-1) = n := by
  unfold Builtin.Slice.slicePlaces
  rw [if_neg (by decide)]
  by_cases c : ((n : Int) - 1 > -1)
  · rw [if_pos c]
    have : ((n : Int) - 1 - -1 - 1) / (- -1) = (n : Int) - 1 := by
      rw [show (- -1 : Int) = 1 from rfl, Int.ediv_one]
      omega
    rw [this]
    omega
  · rw [if_neg c]
    have : n = 0 := by omega
    rw [this]
    rfl
theorem back_applied {z : Addr} {n : Nat} {u2 : Value} {R : Int × Int × Nat → Shared → Prop} (hz : sh.heap.IsSliceOf z .none .none u2) (p2 : IsPart u2 (some (-1))) (q : R ((n : Int) - 1, -1, n) sh) :
    wpAny (model pg wd) Ar (Builtin.Slice.sliceApplied (.ref z) (pure (n : Int))) R Ex sh := by
  obtain ⟨oz, ez, _, dz⟩ := hz
  unfold Builtin.Slice.sliceApplied
  refine wpAny_bind ?_
  unfold Builtin.Slice.sliceFields
  refine wpAny_bind (wpAny_field ez dz (x := .none) rfl (wpAny_bind (wpAny_field ez dz (x := .none) rfl ?_)))
  refine wpAny_bind (wpAny_field ez dz (x := u2) rfl (wpAny_pure ?_))
  refine wpAny_bind (HT.slicePart_ p2 ?_)
  show wpAny _ _ (if ((-1 : Int) == 0) = true then _ else _) _ _ _
  rw [if_neg (by decide)]
  refine wpAny_bind (HT.slicePart_ .none ?_)
  refine wpAny_bind (HT.slicePart_ .none (wpAny_bind (wpAny_pure ?_)))
  show wpAny _ _ (match Builtin.Slice.sliceAdjust none none (-1) (n : Int) with | (a, b) => pure (a, (-1 : Int), Builtin.Slice.slicePlaces a b (-1))) _ _ _
  rw [back_adjust]
  show wpAny _ _ (pure ((n : Int) - 1, (-1 : Int), Builtin.Slice.slicePlaces ((n : Int) - 1) (-1) (-1))) _ _ _
  rw [back_places]
  exact wpAny_pure q
theorem back_pick (its : Array Value) : ((List.range its.size).filterMap fun (k : Nat) => its[((its.size : Int) - 1 + (k : Int) * (-1)).toNat]?).toArray = its.toList.reverse.toArray := by
  have e1 : (List.range its.size).filterMap (fun (k : Nat) => its[((its.size : Int) - 1 + (k : Int) * (-1)).toNat]?) = ((List.range its.size).map fun k => its.size - 1 - k).filterMap (its[·]?) := by
    rw [List.filterMap_map]
    generalize hN : List.range its.size = l
    have hl : ∀ k ∈ l, k < its.size := fun k hk => List.mem_range.mp (by rw [hN]; exact hk)
    clear hN
    induction l with
    | nil => rfl
    | cons k r ih =>
      have := hl k (List.mem_cons_self ..)
      have e2 : ((its.size : Int) - 1 + (k : Int) * (-1)).toNat = its.size - 1 - k := by omega
      rw [List.filterMap_cons, List.filterMap_cons, ih fun j hj => hl j (List.mem_cons_of_mem _ hj), e2]
      rfl
  rw [e1, PySem.W.krv_range, List.filterMap_reverse, PySem.W.krv_all]
theorem back_get {tp z : Addr} {its : Array Value} {u2 : Value} {R : Value → Shared → Prop} (hT : IsTup sh.heap tp its) (hz : sh.heap.IsSliceOf z .none .none u2) (p2 : IsPart u2 (some (-1))) (hs : its.size ≤ sizeLine)
    (q : R (.ref sh.heap.objs.size) { sh with heap := sh.heap.push { cls := .type "tuple", data := .seq its.toList.reverse.toArray } }) : wpAny (model pg wd) Ar (getItem (.ref tp) (.ref z)) R Ex sh := by
  have hk : sizeOk (.seq its.toList.reverse.toArray) := by
    show its.toList.reverse.toArray.size ≤ sizeLine
    rw [List.size_toArray, List.length_reverse, Array.length_toList]
    exact hs
  obtain ⟨oz, ez, cz, dz⟩ := id hz
  refine wpAny_getItem_slot hT.typeIs (by decide) PyProof.Rows.slot_tuple_getitem ?_
  refine wpAny_call_entry PyProof.Rows.slot_tuple_getitem hT.typeIs entry_tuple_getitem ?_ (args_tuple_getitem _ _)
  show wpAny _ _ (Builtin.Tuple.tupleItemsOf (.ref tp) >>= _) _ _ _
  refine wpAny_bind (tupleItemsOf_ hT ?_)
  refine wpAny_bind (wpAny_typeOf (T := "slice") ⟨oz, ez, cz⟩ ?_)
  rw [if_pos (by decide)]
  refine wpAny_bind (back_applied hz p2 ?_)
  show wpAny _ _ (if ((((its.size : Int) - 1) == 0 && (-1 : Int) == 1) && its.size == its.size) = true then _ else _) _ _ _
  rw [if_neg (by simp), back_pick]
  first
    | exact wpAny_bind (m := Builtin.Tuple.tupleExact _) (wpAny_newObj_type (wpAny_pure ⟨_, rfl, q⟩) hk)
    | exact wpAny_bind (m := Builtin.Tuple.tupleExact _) (wpAny_newObj_type (wpAny_bind (wpAny_pure (wpAny_pure ⟨_, rfl, q⟩))) hk)
    | exact wpAny_bind (wpAny_bind (m := Builtin.Tuple.tupleExact _) (wpAny_newObj_type (wpAny_pure (wpAny_pure ⟨_, rfl, q⟩)) hk))
    | exact wpAny_bind (wpAny_bind (m := Builtin.Tuple.tupleExact _) (wpAny_newObj_type (wpAny_pure ⟨_, rfl, q⟩) hk))
end
def tRevT (K : PySem.W.Frag) (te : TE) : TE := fun σ H Q => te σ H fun x H1 => ∃ a xs, x = .ref a ∧ SqT K H1 a xs ∧ ∀ p, H1 p = none → Q (.ref p) (upd H1 p (.tup xs.reverse))
theorem pe_revT {X : Cx} (K : PySem.W.Frag) {e : Expr} {te : TE} {k : Nat} {q1 q2 q3 pos : Pos} (he : PE X e te) (eK : X.K = K := by rfl) : PE X (.Subscript e (.Slice none none (some (.UnaryOp .USub (.Constant (.int 1) k q1) q2)) q3) pos) (tRevT K te) := by
  subst eK
  refine ⟨fun pins s σ H Q I h => Subscript_ (thn (he.run pins s σ H _ I h) fun v s1 ⟨x, H1, I1, r1, a, xs, ex, hx, q⟩ => ?_)⟩
  subst ex
  cases r1
  have part : PO X (some (.UnaryOp .USub (.Constant (.int 1) k q1) q2)) _ := po_some (pe_un un_neg (pe_int (i := 1) (j := k) (pos := q1)))
  refine wpAny_Slice (thn (po_none.run pins s1 σ H1 (fun o G => o = none ∧ G = H1) I1 ⟨rfl, rfl⟩) fun u0 s2 ⟨_, G0, J0, b0, c0, d0⟩ => ?_)
  subst c0 d0
  refine thn (po_none.run pins s2 σ G0 (fun o G => o = none ∧ G = G0) J0 ⟨rfl, rfl⟩) fun u1 s3 ⟨_, G1, J1, b1, c1, d1⟩ => ?_
  subst c1 d1
  refine thn (part.run pins s3 σ G1 (fun o G => o = some (-1) ∧ G = G1) J1 ⟨1, rfl, -1, rfl, rfl, rfl⟩) fun u2 s4 ⟨_, G2, J2, b2, c2, d2⟩ => ?_
  subst c2 d2
  cases b0
  cases b1
  have J3 : Inv X pins σ G2 { s4 with heap := s4.heap.push { cls := .type "slice", data := .fields #[.none, .none, u2] } } := J2.kept (t' := s4.toks) fun b ob z => Heap.get?_push_of_some _ z
  obtain ⟨its, r, hT, hz⟩ := J3.tuple hx
  refine tail_any (ops := [.ref a, .ref s4.heap.objs.size]) hT.typeIs PyProof.Rows.slot_tuple_getitem.lookup ?_ (by with_unfolding_all rfl)
  refine back_get hT (Heap.IsSliceOf.new _ .none .none u2) b2 (by rw [List.size_toArray, ← r.length]; exact hz) ?_
  refine ⟨.ref _, _, J3.laid (t' := s4.toks) (o := .tup xs.reverse) (fun b ob z => Heap.get?_push_of_some _ z) (Nat.le_refl _) ?_, rfl, q _ (J3.hok.fresh (Nat.le_refl _))⟩
  exact ⟨by rw [List.length_reverse]; have := r.length; omega, _, r.reverse, _, Heap.get?_push_size _ rfl, rfl, 0, rfl⟩
/-! ### the fields turned about -/
theorem fineF_len {p : Tr → Prop} : ∀ {n : Nat} {kn : List Str} {t : Tr}, FineF p n kn t → t.fields.length ≤ n
  | 0, _, _, hf => hf.elim
  | _ + 1, _, .nil, hf => hf.elim
  | n + 1, kn, .cons w t r, ⟨_, _, _, h4⟩ => by
    show r.fields.length + 1 ≤ n + 1
    rcases h4 with rfl | h4
    · exact Nat.succ_le_succ (Nat.zero_le _)
    · have := fineF_len h4
      omega
def turned (t : Tr) : Tr := .ofFields t.fields.reverse
theorem turned_good {t : Tr} (h : good t) : good (turned t) := by
  obtain ⟨h1, h2, h3⟩ := h
  rcases id h1 with e | hf
  · rw [e]
    exact good_nil
  · obtain ⟨a, b⟩ := fineF_fields hf
    have l3 := fineF_len hf
    have ne : t.fields ≠ [] := fun z => by
      cases t with
      | nil => exact hf
      | cons w t r => cases z
    have nr : t.fields.reverse ≠ [] := fun z => ne (List.reverse_eq_nil_iff.mp z)
    obtain ⟨r1, r2, _⟩ := recs_of nr
    obtain ⟨q1, q2, _⟩ := recs_of ne
    rw [Tr.of_fields] at q1 q2
    have s1 : sumR t.fields.reverse = sumR t.fields := by unfold sumR; rw [List.map_reverse, List.sum_reverse]
    have s2 : sumP t.fields.reverse = sumP t.fields := by unfold sumP; rw [List.map_reverse, List.sum_reverse]
    refine ⟨.inr (fineF_of _ _ _ nr (by rw [List.length_reverse]; exact l3) (fun m hm => ?_) ?_), ?_, ?_⟩
    · obtain ⟨c1, c2, c3⟩ := a m (List.mem_reverse.mp hm)
      exact ⟨c1, c2, c3⟩
    · rw [List.map_reverse]
      exact List.pairwise_reverse.mpr (List.Pairwise.imp (fun z => Ne.symm z) b)
    · show (Tr.ofFields t.fields.reverse).recs ≤ 5
      rw [r1, s1, ← q1]
      exact h2
    · show (Tr.ofFields t.fields.reverse).plains ≤ 5
      rw [r2, s2, ← q2]
      exact h3
theorem fsAt_rev {H : Hp} : ∀ {t : Tr} {us : List V}, FsAt H t us → FsAt H (turned t) us.reverse
  | .nil, us, h => by
    have e : us = [] := h
    rw [e]
    exact (rfl : ([] : List V).reverse = [])
  | .cons w t r, us, ⟨p, q, qs, e, h1, h2, h3⟩ => by
    have ih := fsAt_rev h3
    rw [e, List.reverse_cons]
    have ef : turned (.cons w t r) = .ofFields (r.fields.reverse ++ [(w, t)]) := by
      unfold turned
      show Tr.ofFields ((w, t) :: r.fields).reverse = _
      rw [List.reverse_cons]
    rw [ef]
    exact FsAt.snoc ih h1 h2
theorem strsT_shaped {l : List Str} (h : ∀ z ∈ l, Asc z) : SeqAt.shaped (.tuple (l.map PyData.str)) = true := by
  unfold SeqAt.shaped
  rw [show PyData.canLay0 (.tuple (l.map PyData.str)) = PyData.canLayAll0 (l.map PyData.str) by simp [PyData.canLay0], canLayAll_strs', show PyData.depth (.tuple (l.map PyData.str)) = PyData.depthAll (l.map PyData.str) + 1 by simp [PyData.depth], strs_dep]
  rw [List.all_eq_true.mpr fun z hz => strOk_asc (h z hz)]
  rfl
theorem strsT_nil (l : List Str) : PyData.eqv (.tuple (l.map PyData.str)) (.tuple []) = l.isEmpty := by cases l <;> simp [PyData.eqv, PyData.eqvAll]
abbrev wds (t : Tr) : List Str := t.fields.map (·.1)
theorem wds_asc {t : Tr} (h : good t) : ∀ z ∈ wds t, Asc z := fun z hz => by
  obtain ⟨m, hm, rfl⟩ := List.mem_map.mp hz
  exact word_asc ((good_fields h).1 m hm).2
theorem wds_nil (t : Tr) : (wds t).isEmpty = t.isNil := by rw [List.isEmpty_map, Tr.nil_iff]
theorem dp_strs {K : PySem.W.Frag} {H : Hp} : ∀ l : List Str, DpAll K H (l.map V.str) (l.map PyData.str)
  | [] => .nil
  | z :: l => .cons (.str z) (dp_strs l)
theorem trD_nil (t : Tr) : PyData.eqv (trD t) (.tuple []) = t.isNil := by cases t <;> simp [trD, trF, PyData.eqv, PyData.eqvAll, Tr.isNil]
theorem cut_last (xs : List V) (y : V) : cutV (xs ++ [y]) none (some (-1)) = xs := by
  unfold cutV
  have e : HT.sIx (xs ++ [y]).length (xs ++ [y]).length (some (-1)) = xs.length := by
    show (if (-1 : Int) < 0 then ((-1 : Int) + (((xs ++ [y]).length : Nat) : Int)).toNat else min (-1 : Int).toNat (xs ++ [y]).length) = _
    rw [if_pos (by decide), List.length_append]
    show ((-1 : Int) + ((xs.length + 1 : Nat) : Int)).toNat = xs.length
    omega
  rw [e, HT.sIx_none]
  simp
theorem kind_asc {b : Bool} {t : Tr} (h : good t) : ∀ z ∈ kindP b t, Asc z := fun z hz => by
  obtain ⟨m, hm, rfl⟩ := List.mem_map.mp hz
  exact pks_asc h _ (List.mem_map.mpr ⟨m, (List.mem_filter.mp hm).1, rfl⟩)
theorem kind_len (b : Bool) (t : Tr) : (kindP b t).length ≤ 1 + t.size := by
  unfold kindP
  rw [List.length_map]
  have := List.length_filter_le (fun m : Str × Tr => m.2.isNil == b) (paths t)
  have e : (paths t).length = 1 + t.size := by show (fp t).length + 1 = _; rw [fp_len]; omega
  omega
end Ve

namespace Rw
open PySem PySem.Spec PyProof.Rows L2 Ub Ur Ug Ue Up Uo Ve Va Vk
/-! ### rows of an update as texts -/
abbrev Prs := List (Str × Str)
abbrev parsD (ps : Prs) : PyData := .tuple (ps.map Up.pairD)
def srcM (term : Str) : Option (Str × Str) :=
  if (Txt.partition term " ").2.1 = "" then some ("present", term)
  else if (Txt.partition term " ").1 = "old" ∨ (Txt.partition term " ").1 = "copy" then some ((Txt.partition term " ").1, (Txt.partition term " ").2.2) else none
def atM (t : Tr) (p : Str) : Option Tr := if p = "." then none else (paths t).lookup p
def pathM (t : Tr) (s p : Str) : Option (Str × Str × Str) := match atM t p with
  | none => none
  | some u => if s = "copy" ∧ u.isNil = true then none else some (s, p, u.text)
def givenM : Prs → Str → Option (Str × Str × Str)
  | [], _ => none
  | p :: r, z => if p.1 = z then some ("given", p.1, p.2) else givenM r z
def termM (t : Tr) (ps : Prs) (z : Str) : Option (Str × Str × Str) := match givenM ps z with
  | some r => some r
  | none => match srcM z with
    | none => none
    | some q => pathM t q.1 q.2
def marks : List Str := ["set", "new", "edit", "merge"]
abbrev headM (row : Str) : Str := (Txt.partition row " = ").1
def rowM (t : Tr) (ps : Prs) (row : Str) : Option (Str × Str × Str × Str) :=
  if (Txt.partition row " = ").2.1 = "" then none
  else if (Txt.partition (headM row) " ").1 ∉ marks then none
  else match atM t (Txt.partition (headM row) " ").2.2 with
    | none => none
    | some u => match termM t ps (Txt.partition row " = ").2.2 with
      | none => none
      | some r => if r.2.2 = u.text then some ((Txt.partition (headM row) " ").1, (Txt.partition (headM row) " ").2.2, r.1, r.2.1) else none
/-- the class of a row, by its mark -/
def clsM (m : Str) : Str := if m = "set" then "SetRow" else if m = "new" then "NewRow" else if m = "edit" then "EditRow" else "MergeRow"
def RowAt (K : PySem.W.Frag) (H : Hp) (x : Addr) (r : Str × Str × Str × Str) : Prop := ∃ dx, H x = some (.ins (He.ga K (clsM r.1)) dx [("path", .str r.2.1), ("source", .str r.2.2.1), ("word", .str r.2.2.2)])
def thensM (rs : List Str) : Nat := (rs.filter fun z : Str => decide (z = ("then" : Str))).length
def fitsM (t : Tr) (ps : Prs) (rs : List Str) (row : Str) : Bool :=
  if row = "then" then decide (thensM rs < 3) else decide (rs.length - thensM rs < 8) && (rowM t ps row).isSome
/-! ### promises -/
def sp_term (C : Addr) : Sp := fun vs H Q _ => ∃ x g Z pv ps term, vs = [.ref x, pv, .str term] ∧ ShG Z C H x g ∧ good g.tr ∧ DtV [] H pv (parsD ps) ∧ ps.length ≤ 3 ∧ term.length ≤ 100000 ∧
  ∀ H', Same H H' → (match termM g.tr ps term with
    | none => Q .non H'
    | some r => ∀ p, H' p = some (.tup [.str r.1, .str r.2.1, .str r.2.2]) → Q (.ref p) H')
def sp_made (K : PySem.W.Frag) : Sp := fun vs H Q _ => ∃ (r : Str × Str × Str × Str), vs = [.str r.1, .str r.2.1, .str r.2.2.1, .str r.2.2.2] ∧ ∀ x H', Same H H' → RowAt K H' x r → Q (.ref x) H'
def sp_setrow (K : PySem.W.Frag) : Sp := fun vs H Q _ => ∃ (C x dx : Addr) (a b c : Str), vs = [.ref x, .str a, .str b, .str c] ∧ H x = some (.ins C dx []) ∧ (Cls K C ∧ NoAttr K C "path" ∧ NoAttr K C "source" ∧ NoAttr K C "word") ∧ Q .non (upd H x (.ins C dx [("path", .str a), ("source", .str b), ("word", .str c)]))
/-- a row as it is given: a short text, or no text -/
def RowV (K : PySem.W.Frag) (H : Hp) (v : V) : Option Str → Prop
  | some z => v = .str z ∧ z.length ≤ 100000
  | none => ∃ d, DtV [] H v d ∧ NotStr K H v
def sp_rrow (K : PySem.W.Frag) (C : Addr) : Sp := fun vs H Q _ => ∃ x g Z pv ps v o, vs = [.ref x, pv, v] ∧ ShG Z C H x g ∧ good g.tr ∧ DtV [] H pv (parsD ps) ∧ ps.length ≤ 3 ∧ RowV K H v o ∧
  ∀ H', Same H H' → (match o.bind (rowM g.tr ps) with
    | none => Q .non H'
    | some r => ∀ p, RowAt K H' p r → Q (.ref p) H')
theorem part_len (x y : Str) : (Txt.partition x y).1.length ≤ x.length ∧ (Txt.partition x y).2.1.length ≤ x.length ∧ (Txt.partition x y).2.2.length ≤ x.length := fact_partition x y
theorem notF {b : Bool} (e : (!b) = false) : b = true := by cases b <;> first | rfl | cases e
theorem notT {b : Bool} (e : (!b) = true) : b = false := by cases b <;> first | rfl | cases e
def fitsV (t : Tr) (ps : Prs) (rs : List Str) (o : Option Str) : Bool := match o with
  | some z => fitsM t ps rs z
  | none => false
def sp_fits (K : PySem.W.Frag) (C : Addr) : Sp := fun vs H Q _ => ∃ x g Z pv ps rs zs v o, vs = [.ref x, pv, .ref rs, v] ∧ ShG Z C H x g ∧ good g.tr ∧ DtV [] H pv (parsD ps) ∧ ps.length ≤ 3 ∧ (H rs = some (.tup (zs.map V.str)) ∨ H rs = some (.lst (zs.map V.str))) ∧ zs.length ≤ 1000 ∧ RowV K H v o ∧ scal v (.str "then") = true ∧ (o = none → v ≠ .str "then") ∧
  ∀ H', Same H H' → Q (.bl (fitsV g.tr ps zs o)) H'
theorem thens_map (zs : List Str) : ((zs.map V.str).filterMap fun y => if y = .str "then" then some y else none) = (zs.filter fun z : Str => decide (z = ("then" : Str))).map V.str := by
  induction zs with
  | nil => rfl
  | cons z zs ih =>
    rw [List.map_cons, List.filterMap_cons, List.filter_cons]
    by_cases e : z = "then"
    · rw [if_pos (by rw [e]), decide_eq_true e, if_pos rfl, List.map_cons]
      exact congrArg _ ih
    · rw [if_neg (fun h => e (V.str.inj h)), decide_eq_false e, if_neg Bool.false_ne_true]
      exact ih
theorem thens_le (zs : List Str) : thensM zs ≤ zs.length := List.length_filter_le _ _
theorem fits_then (t : Tr) (ps : Prs) (zs : List Str) : fitsV t ps zs (some ("then" : Str)) = decide (thensM zs < 3) := by
  show fitsM t ps zs "then" = _
  unfold fitsM
  rw [if_pos rfl]
/-! ### sections -/
/-- the places of "then" among the first n rows -/
def thAt (zs : List Str) (n : Nat) : List Nat := (List.range n).filter fun i => decide (zs[i]? = some ("then" : Str))
def endsM (zs : List Str) : List Nat := thAt zs zs.length ++ [zs.length]
def startsM (zs : List Str) : List Nat := 0 :: (thAt zs zs.length).map (· + 1)
def secsM (zs : List Str) : List (List Str) := ((startsM zs).zip (endsM zs)).map fun m => (zs.drop m.1).take (m.2 - m.1)
def secsD (zs : List Str) : PyData := .tuple ((secsM zs).map fun r => .tuple (r.map PyData.str))
def sp_split : Sp := fun vs H Q _ => ∃ rs zs, vs = [.ref rs] ∧ H rs = some (.tup (zs.map V.str)) ∧ zs.length ≤ 1000 ∧ ∀ v H', Same H H' → DtV [] H' v (secsD zs) → Q v H'
theorem thAt_succ (zs : List Str) (i : Nat) : thAt zs (i + 1) = thAt zs i ++ (if zs[i]? = some ("then" : Str) then [i] else []) := by
  unfold thAt
  rw [List.range_succ, List.filter_append, List.filter_cons]
  by_cases h : zs[i]? = some ("then" : Str)
  · rw [decide_eq_true h, if_pos rfl, if_pos h]
    rfl
  · rw [decide_eq_false h, if_neg Bool.false_ne_true, if_neg h]
    rfl
theorem thAt_len (zs : List Str) (n : Nat) : (thAt zs n).length ≤ n := Nat.le_trans (List.length_filter_le _ _) (by rw [List.length_range]; exact Nat.le_refl _)
theorem thAt_lt {zs : List Str} {n k : Nat} (h : k ∈ thAt zs n) : k < n := List.mem_range.mp (List.mem_filter.mp h).1
theorem thAt_mono {zs : List Str} {n i j a b : Nat} (hij : i < j) (ha : (thAt zs n)[i]? = some a) (hb : (thAt zs n)[j]? = some b) : a < b := by
  have hp : (thAt zs n).Pairwise (· < ·) := List.Pairwise.filter _ List.pairwise_lt_range
  obtain ⟨h1, e1⟩ := List.getElem?_eq_some_iff.mp ha
  obtain ⟨h2, e2⟩ := List.getElem?_eq_some_iff.mp hb
  have := (List.pairwise_iff_getElem.mp hp) i j h1 h2 hij
  rw [e1, e2] at this
  exact this
theorem sec_bnd {zs : List Str} {i a b : Nat} (ha : (startsM zs)[i]? = some a) (hb : (endsM zs)[i]? = some b) : a ≤ b ∧ b ≤ zs.length := by
  have hB : b ≤ zs.length ∧ (∀ k c, k < i → (thAt zs zs.length)[k]? = some c → c < b) := by
    unfold endsM at hb
    rcases Nat.lt_or_ge i (thAt zs zs.length).length with h | h
    · rw [List.getElem?_append_left h] at hb
      exact ⟨Nat.le_of_lt (thAt_lt (List.mem_of_getElem? hb)), fun k c hk hc => thAt_mono hk hc hb⟩
    · rw [List.getElem?_append_right h] at hb
      have e : zs.length = b := by
        cases e0 : i - (thAt zs zs.length).length with
        | zero => rw [e0] at hb; simpa using hb
        | succ m => rw [e0] at hb; simp at hb
      exact ⟨Nat.le_of_eq e.symm, fun k c hk hc => by rw [← e]; exact thAt_lt (List.mem_of_getElem? hc)⟩
  refine ⟨?_, hB.1⟩
  cases i with
  | zero =>
    have : 0 = a := by simpa [startsM] using ha
    omega
  | succ k =>
    unfold startsM at ha
    rw [List.getElem?_cons_succ, List.getElem?_map] at ha
    cases e : (thAt zs zs.length)[k]? with
    | none => rw [e] at ha; cases ha
    | some c =>
      rw [e] at ha
      have : c + 1 = a := Option.some.inj ha
      have := hB.2 k c (Nat.lt_succ_self _) e
      omega
theorem strs_dt {N : List Addr} {H : Hp} : ∀ (l : List Str), DtVs N H (l.map V.str) (l.map PyData.str)
  | [] => .nil
  | z :: l => .cons (.str z) (strs_dt l)
theorem secs_dt {H : Hp} : ∀ {ps : List Addr} {rs : List (List Str)}, ps.length = rs.length → (∀ (k : Nat) (p : Addr) (r : List Str), ps[k]? = some p → rs[k]? = some r → H p = some (.tup (r.map V.str))) → DtVs [] H (ps.map V.ref) (rs.map fun r => PyData.tuple (r.map PyData.str))
  | [], [], _, _ => .nil
  | p :: ps, r :: rs, hl, h => .cons (.tup (h 0 p r rfl rfl) (by simp) (strs_dt r)) (secs_dt (by simpa using hl) fun k p' r' h1 h2 => h (k + 1) p' r' (by simpa using h1) (by simpa using h2))
/-! ### an update -/
/-- the first row that does not fit: behind the rows rs, the rest's numbers begin at i -/
def badAt (t : Tr) (ps : Prs) : List Str → List (Option Str) → Nat → Option Nat
  | _, [], _ => none
  | rs, o :: r, i => if fitsV t ps rs o = true then badAt t ps (rs ++ [o.getD Str.empty]) r (i + 1) else some i
def KindsAt (Z : Addr → Prop) (C : Addr) (H : Hp) (ks : Addr) (ps : Prs) : Prop := Z ks ∧ ∃ qs : List Addr, H ks = some (.lst (qs.map V.ref)) ∧ qs.length = ps.length ∧ ∀ (i : Nat) (m : Str × Str), ps[i]? = some m → ∃ (q x : Addr) (g : Sg), qs[i]? = some q ∧ H q = some (.tup [.str m.1, .ref x]) ∧ ShG Z C H x g ∧ g.tr.text = m.2 ∧ good g.tr
/-- what stands for a row: an object, or None -/
def RowVal (K : PySem.W.Frag) (H : Hp) (v : V) : Option (Str × Str × Str × Str) → Prop
  | none => v = .non
  | some r => ∃ x, v = .ref x ∧ RowAt K H x r
def SecAt (Z : Addr → Prop) (K : PySem.W.Frag) (H : Hp) (c : Addr) (t : Tr) (ps : Prs) (r : List Str) : Prop := Z c ∧ ∃ xs : List V, H c = some (.lst xs) ∧ xs.length = r.length ∧ ∀ (i : Nat) (z : Str), r[i]? = some z → ∃ v, xs[i]? = some v ∧ RowVal K H v (rowM t ps z)
def WritAt (Z : Addr → Prop) (K : PySem.W.Frag) (H : Hp) (ws : Addr) (t : Tr) (ps : Prs) (rs : List (List Str)) : Prop := Z ws ∧ ∃ cs : List Addr, H ws = some (.lst (cs.map V.ref)) ∧ cs.length = rs.length ∧ ∀ (i : Nat) (r : List Str), rs[i]? = some r → ∃ c, cs[i]? = some c ∧ SecAt Z K H c t ps r
theorem RowAt.keep {K : PySem.W.Frag} {H H' : Hp} {x : Addr} {r : Str × Str × Str × Str} (k : ∀ b C dx fs, H b = some (.ins C dx fs) → fs.length = 3 → H' b = some (.ins C dx fs)) (h : RowAt K H x r) : RowAt K H' x r := by
  obtain ⟨dx, h⟩ := h
  exact ⟨dx, k _ _ _ _ h rfl⟩
theorem RowVal.keep {K : PySem.W.Frag} {H H' : Hp} {v : V} {o : Option (Str × Str × Str × Str)} (k : ∀ b C dx fs, H b = some (.ins C dx fs) → fs.length = 3 → H' b = some (.ins C dx fs)) (h : RowVal K H v o) : RowVal K H' v o := by
  cases o with
  | none => exact h
  | some r =>
    obtain ⟨x, e, h⟩ := h
    exact ⟨x, e, h.keep k⟩
theorem SecAt.keep {Z Z' : Addr → Prop} {K : PySem.W.Frag} {H H' : Hp} {c : Addr} {t : Tr} {ps : Prs} {r : List Str} (k : ∀ b C dx fs, H b = some (.ins C dx fs) → fs.length = 3 → H' b = some (.ins C dx fs)) (kl : ∀ b xs, H b = some (.lst xs) → Z b → H' b = some (.lst xs)) (kz : ∀ b, Z b → H b ≠ none → Z' b) (h : SecAt Z K H c t ps r) : SecAt Z' K H' c t ps r := by
  obtain ⟨z, xs, h1, h2, h3⟩ := h
  exact ⟨kz _ z (by rw [h1]; simp), xs, kl _ _ h1 z, h2, fun i y hy => by
    obtain ⟨v, e, hv⟩ := h3 i y hy
    exact ⟨v, e, hv.keep k⟩⟩
theorem WritAt.keep {Z Z' : Addr → Prop} {K : PySem.W.Frag} {H H' : Hp} {c : Addr} {t : Tr} {ps : Prs} {rs : List (List Str)} (k : ∀ b C dx fs, H b = some (.ins C dx fs) → fs.length = 3 → H' b = some (.ins C dx fs)) (kl : ∀ b xs, H b = some (.lst xs) → Z b → H' b = some (.lst xs)) (kz : ∀ b, Z b → H b ≠ none → Z' b) (h : WritAt Z K H c t ps rs) : WritAt Z' K H' c t ps rs := by
  obtain ⟨z, xs, h1, h2, h3⟩ := h
  exact ⟨kz _ z (by rw [h1]; simp), xs, kl _ _ h1 z, h2, fun i y hy => by
    obtain ⟨v, e, hv⟩ := h3 i y hy
    exact ⟨v, e, hv.keep k kl kz⟩⟩
theorem strs_inj : ∀ {a b : List Str}, a.map V.str = b.map V.str → a = b
  | [], [], _ => rfl
  | x :: a, [], h => nomatch h
  | [], y :: b, h => nomatch h
  | x :: a, y :: b, h => by
    rw [List.map_cons, List.map_cons] at h
    injection h with h1 h2
    rw [V.str.inj h1, strs_inj h2]
abbrev upF (sh : Addr) (pv : V) (rs ks ws : Addr) : List (Str × V) := [("shape", .ref sh), ("parameters", pv), ("rows", .ref rs), ("kinds", .ref ks), ("writings", .ref ws)]
def sp_update (K : PySem.W.Frag) (C CS BP BR : Addr) : Sp := fun vs H Q E => ∃ (x dx sh : Addr) (g : Sg) (Z : Addr → Prop) (pv : V) (d : PyData) (rs : Addr) (rvs : List V) (os : List (Option Str)), vs = [.ref x, .ref sh, pv, .ref rs] ∧ H x = some (.ins C dx []) ∧ ShG Z CS H sh g ∧ good g.tr ∧ DtV [] H pv d ∧ Sm d ∧
  H rs = some (.tup rvs) ∧ rvs.length = os.length ∧ rvs.length ≤ 100 ∧ (∀ (i : Nat) (v : V) (o : Option Str), rvs[i]? = some v → os[i]? = some o → RowV K H v o ∧ scal v (.str "then") = true ∧ (o = none → v ≠ .str "then")) ∧
  (areP d = false → ∀ e H', Same H H' → H e = none → H' e = some (.xd [("parameters", pv)]) → E (.ref BP) (some e) H') ∧
  (∀ ps : Prs, d = parsD ps → areP d = true → match badAt g.tr ps [] os 0 with
    | some i => ∀ e H', Same H H' → H e = none → H' e = some (.xd [("at", .int (i : Nat))]) → E (.ref BR) (some e) H'
    | none => ∀ ks ws H', (∀ b o, H b = some o → b ≠ x → H' b = some o) → H' x = some (.ins C dx (upF sh pv rs ks ws)) → KindsAt (fun b => H b = none) CS H' ks ps → (∀ zs, rvs = zs.map V.str → WritAt (fun b => H b = none) K H' ws g.tr ps (secsM zs)) → Q .non H')
theorem areP_pairs {d : PyData} (h : areP d = true) : ∃ ps : Prs, d = parsD ps ∧ ps.length ≤ 3 := by
  obtain ⟨ds, rfl, l3, hP⟩ := areP_tup h
  have go : ∀ ds : List PyData, (∀ d ∈ ds, ∃ w z t, d = .tuple [.str w, .str z] ∧ shapeOf z = some t) → ∃ ps : Prs, ds = ps.map Up.pairD := by
    intro ds hd
    induction ds with
    | nil => exact ⟨[], rfl⟩
    | cons d ds ih =>
      obtain ⟨ps, rfl⟩ := ih fun d' hd' => hd d' (List.mem_cons_of_mem _ hd')
      obtain ⟨w, z, t, rfl, _⟩ := hd d (List.mem_cons_self ..)
      exact ⟨(w, z) :: ps, rfl⟩
  obtain ⟨ps, rfl⟩ := go ds (parP_all hP)
  exact ⟨ps, rfl, by rw [List.length_map] at l3; exact l3⟩
/-! ### how parameters lie -/
theorem pars_at {N : List Addr} {H : Hp} {v : V} {ps : Prs} (h : DtV N H v (parsD ps)) : ∃ (p : Addr) (qs : List Addr), v = .ref p ∧ H p = some (.tup (qs.map V.ref)) ∧ qs.length = ps.length ∧ ∀ (i : Nat) (m : Str × Str), ps[i]? = some m → ∃ q, qs[i]? = some q ∧ H q = some (.tup [.str m.1, .str m.2]) := by
  rcases h.tupOr with ⟨p, xs, ds, e, rfl, hp, hx⟩ | hn
  rotate_left
  · cases hn
  injection e with e
  have go : ∀ {xs : List V} {ds : List PyData} {ps : Prs}, ps.map Up.pairD = ds → DtVs N H xs ds → ∃ qs : List Addr, xs = qs.map V.ref ∧ qs.length = ps.length ∧ ∀ (i : Nat) (m : Str × Str), ps[i]? = some m → ∃ q, qs[i]? = some q ∧ H q = some (.tup [.str m.1, .str m.2]) := by
    intro xs ds ps e hx
    induction ps generalizing xs ds with
    | nil =>
      rw [← e] at hx
      cases hx
      exact ⟨[], rfl, rfl, fun i m z => by simp at z⟩
    | cons m ps ih =>
      rw [← e] at hx
      cases hx with
      | cons h1 h2 =>
        obtain ⟨qs, rfl, hl, hq⟩ := ih rfl h2
        rcases h1.tupOr with ⟨q, ys, es, e1, rfl, hq1, hy⟩ | hn
        rotate_left
        · cases hn
        injection e1 with e1
        have ey : ys = [.str m.1, .str m.2] := by
          rw [← e1] at hy
          cases hy with
          | cons a b =>
            cases b with
            | cons b c =>
              cases c
              cases a
              cases b
              rfl
        rw [ey] at hq1
        refine ⟨q :: qs, rfl, by rw [List.length_cons, List.length_cons, hl], fun i m' z => ?_⟩
        cases i with
        | zero =>
          have : m = m' := by simpa using z
          rw [← this]
          exact ⟨q, rfl, hq1⟩
        | succ i => exact hq i m' (by simpa using z)
  obtain ⟨qs, rfl, hl, hq⟩ := go e hx
  exact ⟨p, qs, rfl, hp, hl, hq⟩
theorem given_drop {ps : Prs} {i : Nat} {m : Str × Str} {z : Str} (h : ps[i]? = some m) (hn : m.1 ≠ z) : givenM (ps.drop i) z = givenM (ps.drop (i + 1)) z := by
  have hlt : i < ps.length := (List.getElem?_eq_some_iff.mp h).1
  rw [List.drop_eq_getElem_cons hlt, (List.getElem?_eq_some_iff.mp h).2]
  show (if m.1 = z then _ else _) = _
  rw [if_neg hn]
theorem given_here {ps : Prs} {i : Nat} {m : Str × Str} {z : Str} (h : ps[i]? = some m) (he : m.1 = z) : givenM (ps.drop i) z = some (("given" : Str), m.1, m.2) := by
  have hlt : i < ps.length := (List.getElem?_eq_some_iff.mp h).1
  rw [List.drop_eq_getElem_cons hlt, (List.getElem?_eq_some_iff.mp h).2]
  show (if m.1 = z then _ else _) = _
  rw [if_pos he]
theorem lookup_mem {α : Type} {l : List (Str × α)} (hn : (l.map (·.1)).Nodup) {m : Str × α} (hm : m ∈ l) : l.lookup m.1 = some m.2 := by
  induction l with
  | nil => cases hm
  | cons a l ih =>
    rw [List.map_cons, List.nodup_cons] at hn
    rw [List.lookup_cons]
    rcases List.mem_cons.mp hm with e | e
    · rw [← e, beq_self_eq_true]
    · have : (m.1 == a.1) = false := by
        rw [beq_eq_false_iff_ne]
        intro z
        exact hn.1 (z ▸ List.mem_map.mpr ⟨m, e, rfl⟩)
      rw [this]
      exact ih hn.2 e
theorem lookup_none {α : Type} {l : List (Str × α)} {p : Str} (h : p ∉ l.map (·.1)) : l.lookup p = none := by
  induction l with
  | nil => rfl
  | cons a l ih =>
    rw [List.map_cons, List.mem_cons, not_or] at h
    rw [List.lookup_cons, (beq_eq_false_iff_ne.mpr h.1)]
    exact ih h.2
/-- a path is none, or a shape stands there -/
theorem at_shape {Z : Addr → Prop} {C : Addr} {H : Hp} {x : Addr} {g : Sg} (sh : ShG Z C H x g) (gd : good g.tr) (p : Str) : (p ∉ pks g.tr ∧ (paths g.tr).lookup p = none) ∨ (p ∈ pks g.tr ∧ ∃ m ∈ gpaths x g, m.1 = p ∧ (paths g.tr).lookup p = some m.2.2.tr ∧ ShG Z C H m.2.1 m.2.2 ∧ good m.2.2.tr) := by
  by_cases h : p ∈ pks g.tr
  · refine .inr ⟨h, ?_⟩
    have h' : p ∈ (gpaths x g).map (·.1) := by rw [gpaths_keys]; exact h
    obtain ⟨m, hm, rfl⟩ := List.mem_map.mp h'
    have hm' : (m.1, m.2.2.tr) ∈ paths g.tr := by
      rw [← gpaths_tr x g]
      exact List.mem_map.mpr ⟨m, hm, rfl⟩
    exact ⟨m, hm, rfl, lookup_mem (paths_nodup (good_W gd)) hm', shg_at sh m hm, (paths_good _ (Nat.le_refl _) gd _ hm').g⟩
  · exact .inl ⟨h, lookup_none h⟩
/-! ### a shape lies beside an object that has no field yet -/
theorem sh1_off {Z : Addr → Prop} {C : Addr} {H : Hp} {x y C' dy : Addr} {fs : List (Str × V)} {g : Sg} (hy : H y = some (.ins C' dy fs)) (hf : fs.length ≠ 5) (h : Sh1 Z C H x g) : Sh1 (fun b => Z b ∧ b ≠ y) C H x g := by
  obtain ⟨dx, tv, na, fa, sa, h1, h2, h3, h4, h5, z1, z2, z3⟩ := h
  exact ⟨dx, tv, na, fa, sa, h1, h2, h3, h4, h5, ⟨z1, ne_of h1 hy (by intro z; injection z with _ _ e; rw [← e] at hf; exact hf rfl)⟩, ⟨z2, ne_of h4 hy (by intro z; cases z)⟩, ⟨z3, ne_of h5 hy (by intro z; cases z)⟩⟩
theorem shl_off {Z : Addr → Prop} {C : Addr} {H : Hp} {y C' dy : Addr} {fs : List (Str × V)} (hy : H y = some (.ins C' dy fs)) (hf : fs.length ≠ 5) : ∀ {g : Sg}, ShL Z C H g → ShL (fun b => Z b ∧ b ≠ y) C H g
  | .nil, _ => trivial
  | .cons _ _ _ _, ⟨a, b, c⟩ => ⟨sh1_off hy hf a, shl_off hy hf b, shl_off hy hf c⟩
theorem shg_off {Z : Addr → Prop} {C : Addr} {H : Hp} {x y C' dy : Addr} {fs : List (Str × V)} {g : Sg} (hy : H y = some (.ins C' dy fs)) (hf : fs.length ≠ 5) (h : ShG Z C H x g) : ShG (fun b => Z b ∧ b ≠ y) C H x g := ⟨sh1_off hy hf h.1, shl_off hy hf h.2⟩
/-- through a making that changes the new object alone -/
theorem shg_through {Z : Addr → Prop} {C : Addr} {H H' : Hp} {x y C' dy : Addr} {fs : List (Str × V)} {g : Sg} (hy : H y = some (.ins C' dy fs)) (hf : fs.length ≠ 5) (k : ∀ b o, H b = some o → b ≠ y → H' b = some o) (h : ShG Z C H x g) : ShG (fun b => Z b ∧ b ≠ y) C H' x g :=
  (shg_off hy hf h).kz fun b o hb _ hz => k b o hb (by
    rcases hz with hz | ⟨xs, rfl⟩
    · exact hz.2
    · exact ne_of hb hy (by intro z; cases z))
mutual
theorem keepO {N : List Addr} {H H' : Hp} (k : ∀ b o, H b = some o → (∃ xs, o = .lst xs ∨ o = .tup xs) → b ∉ N → H' b = some o) : ∀ {v : V} {d : PyData}, DtV N H v d → DtV N H' v d
  | _, _, .non => .non
  | _, _, .bl b => .bl b
  | _, _, .int i => .int i
  | _, _, .str z => .str z
  | _, _, .lst h n r => .lst (k _ _ h ⟨_, .inl rfl⟩ n) n (keepOs k r)
  | _, _, .tup h n r => .tup (k _ _ h ⟨_, .inr rfl⟩ n) n (keepOs k r)
theorem keepOs {N : List Addr} {H H' : Hp} (k : ∀ b o, H b = some o → (∃ xs, o = .lst xs ∨ o = .tup xs) → b ∉ N → H' b = some o) : ∀ {xs : List V} {ds : List PyData}, DtVs N H xs ds → DtVs N H' xs ds
  | _, _, .nil => .nil
  | _, _, .cons h r => .cons (keepO k h) (keepOs k r)
end
theorem dt_strs {N : List Addr} {H : Hp} : ∀ {xs : List V} {r : List Str}, DtVs N H xs (r.map PyData.str) → xs = r.map V.str
  | _, [], .nil => rfl
  | _, z :: r, .cons (.str _) b => by rw [dt_strs b]; rfl
theorem dt_secs {N : List Addr} {H : Hp} : ∀ {xs : List V} {rs : List (List Str)}, DtVs N H xs (rs.map fun r => PyData.tuple (r.map PyData.str)) → ∃ cs : List Addr, xs = cs.map V.ref ∧ cs.length = rs.length ∧ ∀ c ∈ cs, ∃ r ∈ rs, H c = some (.tup (r.map V.str))
  | _, [], .nil => ⟨[], rfl, rfl, fun _ h => nomatch h⟩
  | _, r :: rs, .cons (.tup (p := p) h _ b) t => by
    obtain ⟨cs, rfl, hl, hc⟩ := dt_secs t
    refine ⟨p :: cs, rfl, congrArg (· + 1) hl, fun c hm => ?_⟩
    rcases List.mem_cons.mp hm with rfl | hm
    · exact ⟨r, List.mem_cons_self .., by rw [h, dt_strs b]⟩
    · obtain ⟨r', h1, h2⟩ := hc c hm
      exact ⟨r', List.mem_cons_of_mem _ h1, h2⟩
theorem dt_through {N : List Addr} {H H' : Hp} {y C' dy : Addr} {fs : List (Str × V)} {v : V} {d : PyData} (hy : H y = some (.ins C' dy fs)) (k : ∀ b o, H b = some o → b ≠ y → H' b = some o) (h : DtV N H v d) : DtV N H' v d :=
  keepO (fun b o hb ho _ => k b o hb (ne_of hb hy (by intro z; rw [z] at ho; rcases ho with ⟨xs, ho | ho⟩ <;> cases ho))) h
theorem secs_at {N : List Addr} {H : Hp} {v : V} {zs : List Str} (h : DtV N H v (secsD zs)) : ∃ (p : Addr) (cs : List Addr), v = .ref p ∧ H p = some (.tup (cs.map V.ref)) ∧ cs.length ≤ zs.length + 1 ∧ ∀ c ∈ cs, ∃ r : List Str, H c = some (.tup (r.map V.str)) ∧ r.length ≤ zs.length ∧ ∀ z ∈ r, z ∈ zs := by
  unfold secsD at h
  cases h with
  | tup hp _ hx =>
    obtain ⟨cs, rfl, hl, hc⟩ := dt_secs hx
    refine ⟨_, cs, rfl, hp, ?_, fun c hm => ?_⟩
    · rw [hl]
      unfold secsM startsM endsM
      rw [List.length_map, List.length_zip, List.length_cons, List.length_map, List.length_append]
      have := thAt_len zs zs.length
      simp only [List.length_cons, List.length_nil]
      omega
    · obtain ⟨r, hr, e⟩ := hc c hm
      unfold secsM at hr
      obtain ⟨m, _, rfl⟩ := List.mem_map.mp hr
      refine ⟨_, e, ?_, fun z hz => List.mem_of_mem_drop (List.mem_of_mem_take hz)⟩
      rw [List.length_take, List.length_drop]
      omega
theorem dt_secs2 {N : List Addr} {H : Hp} : ∀ {xs : List V} {rs : List (List Str)}, DtVs N H xs (rs.map fun r => PyData.tuple (r.map PyData.str)) → ∃ cs : List Addr, xs = cs.map V.ref ∧ cs.length = rs.length ∧ ∀ (i : Nat) (r : List Str), rs[i]? = some r → ∃ c, cs[i]? = some c ∧ H c = some (.tup (r.map V.str))
  | _, [], .nil => ⟨[], rfl, rfl, fun i r h => by simp at h⟩
  | _, r :: rs, .cons (.tup (p := p) h _ b) t => by
    obtain ⟨cs, rfl, hl, hc⟩ := dt_secs2 t
    refine ⟨p :: cs, rfl, congrArg (· + 1) hl, fun i r' hi => ?_⟩
    cases i with
    | zero =>
      have : r = r' := by simpa using hi
      exact ⟨p, rfl, by rw [h, dt_strs b, this]⟩
    | succ i => exact hc i r' (by simpa using hi)
theorem secs_at2 {N : List Addr} {H : Hp} {v : V} {zs : List Str} (h : DtV N H v (secsD zs)) : ∃ (p : Addr) (cs : List Addr), v = .ref p ∧ H p = some (.tup (cs.map V.ref)) ∧ cs.length = (secsM zs).length ∧ ∀ (i : Nat) (r : List Str), (secsM zs)[i]? = some r → ∃ c, cs[i]? = some c ∧ H c = some (.tup (r.map V.str)) := by
  unfold secsD at h
  cases h with
  | tup hp _ hx =>
    obtain ⟨cs, rfl, hl, hc⟩ := dt_secs2 hx
    exact ⟨_, cs, rfl, hp, hl, hc⟩
theorem secs_len (zs : List Str) : (secsM zs).length ≤ zs.length + 1 := by
  unfold secsM startsM endsM
  rw [List.length_map, List.length_zip, List.length_cons, List.length_map, List.length_append]
  have := thAt_len zs zs.length
  simp only [List.length_cons, List.length_nil]
  omega
theorem secs_mem {zs : List Str} {r : List Str} (h : r ∈ secsM zs) : r.length ≤ zs.length ∧ ∀ z ∈ r, z ∈ zs := by
  unfold secsM at h
  obtain ⟨m, _, rfl⟩ := List.mem_map.mp h
  refine ⟨?_, fun z hz => List.mem_of_mem_drop (List.mem_of_mem_take hz)⟩
  rw [List.length_take, List.length_drop]
  omega
end Rw

namespace Un
open PySem PySem.Spec PyProof.Rows L2 Ub
open AutoSeq1 (wpAny_loadPart')
/-! ### enumerate of a tuple -/
theorem new_enumT (tp : Addr) (its : Array Value) (n : Nat) (dc : Option Addr) (sl : Array (Option Value)) :
    Meets (Builtin.«enumerate.__new__» ⟨[.type "enumerate", .ref tp], []⟩) (fun _ R s => s.heap.get? tp = some { cls := .type "tuple", dict := dc, data := .seq its n, slots := sl } ∧
      R (.ok (.ret (.ref (s.heap.push { cls := .type "tuple_iterator", data := .fields #[.ref tp, .int 0 0] }).objs.size)))
        { s with heap := (s.heap.push { cls := .type "tuple_iterator", data := .fields #[.ref tp, .int 0 0] }).push { cls := .type "enumerate", data := .fields #[.none, .bool false, .ref s.heap.objs.size, rawInt 0, .none, .none] } }) :=
  .of_wp fun prog w A R s h => by
    obtain ⟨hp, g, d, tk, os⟩ := s
    obtain ⟨ht, h⟩ := h
    have sb := sub_enumerate
    have hT : Heap.IsTuple (Shared.heap ⟨hp, g, d, tk, os⟩) tp its := ⟨_, ht, rfl, n, rfl⟩
    wp_walk using wpAny_loadPart' ht
    refine wpAny_stack_any fun st => wpAny_pure ?_
    split
    · rename_i c _ _ _ _ _
      cases (c == Value.type "enumerate")
      · wp_walk using wpAny_loadPart' ht, wpAny_pyIter_tuple hT
        exact ⟨_, rfl, h⟩
      · wp_walk using wpAny_loadPart' ht, wpAny_pyIter_tuple hT
        exact ⟨_, rfl, h⟩
    · wp_walk using wpAny_loadPart' ht, wpAny_pyIter_tuple hT
      exact ⟨_, rfl, h⟩
theorem call_enumT {prog : Program} {w : World} {A : Around} {E : Value → Shared → Prop} {s : Shared} {tp : Addr} {its : Array Value} {Q : Value → Shared → Prop} (hT : s.heap.IsTuple tp its)
    (h : ∀ h', IsEnum h' (s.heap.objs.size + 1) s.heap.objs.size 0 .none → h'.IsTupleIter s.heap.objs.size tp 0 → (∀ b o, s.heap.get? b = some o → h'.get? b = some o) → Q (.ref (s.heap.objs.size + 1)) { s with heap := h' }) :
    wpAny (model prog w) A (call (.type "enumerate") [.ref tp]) Q E s := by
  obtain ⟨⟨c, dc, dt, sl⟩, ht, hc, n, hd⟩ := hT
  replace hc : c = .type "tuple" := hc
  replace hd : dt = .seq its n := hd
  subst hc hd
  refine callType_new F.called_enumerate (by decide) (F.typeCall_enumerate_1 _) (F.newCall_enumerate_1 _) (fun obj => F.args_object_init_2 obj _) F.entry_enumerate_new (new_enumT tp its n dc sl) ⟨ht, ?_⟩
  have hz : (s.heap.push { cls := .type "tuple_iterator", data := .fields #[.ref tp, .int 0 0] }).objs.size = s.heap.objs.size + 1 := Heap.size_push ..
  show _ ∧ _
  rw [hz]
  have he : IsEnum ((s.heap.push { cls := .type "tuple_iterator", data := .fields #[.ref tp, .int 0 0] }).push { cls := .type "enumerate", data := .fields #[.none, .bool false, .ref s.heap.objs.size, rawInt 0, .none, .none] }) (s.heap.objs.size + 1) s.heap.objs.size 0 .none := by
    have z := Heap.get?_push_size (s.heap.push { cls := .type "tuple_iterator", data := .fields #[.ref tp, .int 0 0] }) (o := { cls := .type "enumerate", data := .fields #[.none, .bool false, .ref s.heap.objs.size, rawInt 0, .none, .none] }) rfl
    rw [hz] at z
    exact z
  exact ⟨⟨_, he, rfl⟩, h _ he ⟨_, Heap.get?_push_of_some _ (Heap.get?_push_size _ rfl), rfl, rfl⟩ fun b o x => Heap.get?_push_of_some _ (Heap.get?_push_of_some _ x)⟩
def IteT (K : PySem.W.Frag) (a : Addr) : It :=
  ⟨fun i H => ∃ (xs : List V) (x : V), SqT K H a xs ∧ xs[i]? = some x, fun i H v H' => ∃ T x, v = .ref T ∧ H T = none ∧ H' = upd H T (.tup [.int (i : Nat), x]) ∧ ∀ xs, SqT K H a xs → xs[i]? = some x, fun i H => ∃ xs : List V, SqT K H a xs ∧ xs.length = i⟩
theorem turn_enumT {P : Program} {w : World} {K : PySem.W.Frag} {elts : List Expr} {kk : Nat} {tpos : Pos} (a e it : Addr) :
    Turn P w K (.Tuple elts kk tpos) (IteT K a) [e, it] e (fun i h => (∃ old, IsEnum h e it ((i : Nat) : Int) old) ∧ h.IsTupleIter it a i ∧ e ≠ it) where
  mem := by simp
  obj := fun i h st b hb => by
    obtain ⟨⟨old, he⟩, ⟨o, ho, hc, hd⟩, _⟩ := st
    rcases (by simpa using hb : b = e ∨ b = it) with z | z
    · rw [z]; exact ⟨_, he, fun v q => nomatch q⟩
    · rw [z]; exact ⟨o, ho, fun v q => by rw [hd] at q; cases q⟩
  keep := fun i h h' st k => let ⟨⟨old, he⟩, hi, hne⟩ := st; ⟨⟨old, k e (by simp) _ he⟩, hi.at fun o q => k it (by simp) o q, hne⟩
  item := by
    intro X hP hw hK hc i pins s σ H E I hf st hg
    subst hP hw hK
    obtain ⟨⟨old, he⟩, hit, hne⟩ := st
    obtain ⟨xs, x, hq, hx⟩ := hg
    obtain ⟨its, rv, p, hz⟩ := I.tuple hq
    obtain ⟨u, hu, ru⟩ := rv.get hx
    have hel : e < s.heap.objs.size := Heap.lt_size he
    have hil : it < s.heap.objs.size := by obtain ⟨_, q, _⟩ := hit; exact Heap.lt_size q
    have hpa : s.heap.IsTuple a its.toArray := p
    have hae : e ≠ a := fun z => by
      obtain ⟨o, ho, hc', _⟩ := hpa
      rw [← z, he] at ho
      rw [← Option.some.inj ho] at hc'
      exact absurd (show Value.type "enumerate" = Value.type "tuple" from hc') (by decide)
    have hai : a ≠ it := fun z => by
      obtain ⟨o, ho, hc', _⟩ := hpa
      obtain ⟨o2, ho2, hc2, _⟩ := hit
      rw [z, ho2] at ho
      rw [← Option.some.inj ho, hc2] at hc'
      exact absurd hc' (by decide)
    have hlt : i < its.toArray.size := by
      have := (List.getElem?_eq_some_iff.mp hu).1
      simpa using this
    refine wpAny_pyNext_enum_itemD (Draws.tuple (A := X.A.in1) (I.ok.hd hc) it a hai its.toArray) he ⟨hit, hpa⟩ hlt hne (by simp [hne, hae]) fun y h' tk hy ho st' hT hsz hk => ?_
    have ey : y = u := by
      have hy : its.toArray[i]? = some y := hy
      have hu' : its.toArray[i]? = some u := by simpa using hu
      rw [hu'] at hy
      exact (Option.some.inj hy).symm
    subst ey
    refine ⟨_, rfl, wpAny_letOwnedTupleGo_enum (s := { s with heap := h', toks := tk + 1 }) ho fun h'' he' sb => ?_⟩
    have hT2 : h''.get? s.heap.objs.size = some { cls := .type "tuple", data := .seq #[.int i tk, y] } := (sb.2 _ (Nat.ne_of_gt hel)).trans hT
    have new : ObjOk X.prog X.w (upd H s.heap.objs.size (.tup [.int (i : Nat), x])) h'' s.heap.objs.size (.tup [.int (i : Nat), x]) :=
      ⟨by show 2 ≤ sizeLine; decide, [.int i tk, y], .cons ⟨_, rfl⟩ (.cons ru .nil), ⟨_, hT2, rfl, _, rfl⟩⟩
    have J1 : Inv X pins σ (upd H s.heap.objs.size (.tup [.int (i : Nat), x])) { s with heap := h'', toks := tk + 1 } :=
      I.turnedNew (ch := [e, it]) (fun b ob hb q => (sb.2 b (fun z => hb (by simp [z]))).trans (hk b ob (fun z => hb (by simp [z])) (fun z => hb (by simp [z])) q)) hf (Nat.le_refl _) new
    refine ⟨.ref s.heap.objs.size, _, J1, rfl, ⟨_, x, rfl, I.hok.fresh (Nat.le_refl _), rfl, fun ys hy => by rw [I.tuple_inj hy hq]; exact hx⟩, ⟨⟨y, ?_⟩, st'.1.at fun o q => (sb.2 it (Ne.symm hne)).trans q, hne⟩, fun b hb => ?_⟩
    · have e1 : ((i + 1 : Nat) : Int) = (i : Int) + 1 := by omega
      rw [e1]; exact he'
    · have hb' : b < s.heap.objs.size := by
        rcases (by simpa using hb : b = e ∨ b = it) with z | z
        · rw [z]; exact hel
        · rw [z]; exact hil
      rw [upd_ne (Nat.ne_of_lt hb')]
      exact (hf b hb).1
  done := by
    intro X hP hw hK hc i pins s σ H E I hf st hg
    subst hP hw hK
    obtain ⟨⟨old, he⟩, hit, hne⟩ := st
    obtain ⟨xs, hq, hx⟩ := hg
    obtain ⟨its, rv, p, hz⟩ := I.tuple hq
    obtain ⟨f0, f1, f2, f3, f4, f5⟩ := hf it (by simp)
    have hl := rv.length
    have hpa : s.heap.IsTuple a its.toArray := p
    have hai : a ≠ it := fun z => by
      obtain ⟨o, ho, hc', _⟩ := hpa
      obtain ⟨o2, ho2, hc2, _⟩ := hit
      rw [z, ho2] at ho
      rw [← Option.some.inj ho, hc2] at hc'
      exact absurd hc' (by decide)
    have hn : its.toArray.size = i := by simp; omega
    exact wpAny_pyNext_enum_endD (Draws.tuple (A := X.A.in1) (I.ok.hd hc) it a hai its.toArray) he ⟨by rw [hn]; exact hit, hpa⟩ fun h' eb => ⟨rfl, I.turned (t' := s.toks) (fun b o hb q => eb b o hb q) f0 f1 f3 f4 f5⟩
  self := fun A i s Q E st h => let ⟨⟨_, he⟩, _⟩ := st; wpAny_pyIter_enum he h
def iEnumT (K : PySem.W.Frag) (ta : TA) : TI := fun σ H R => ta σ H fun vs H1 => ∃ a xs, vs = [.ref a] ∧ SqT K H1 a xs ∧ R (IteT K a) H1
theorem pi_enumT (K : PySem.W.Frag) {X : Cx} {e : Expr} {ta : TA} {p pos tpos : Pos} {elts : List Expr} {kk : Nat} (hg : Gl X "enumerate") (hm : X.mg "enumerate" = none) (ha : PA X [e] ta) (hs : starEach [e] X.env = [(false, eval e X.env)] := by rfl) (eK : X.K = K := by rfl) :
    PI X (.Tuple elts kk tpos) (.Call (.Name "enumerate" p) [e] [] pos) (iEnumT K ta) := by
  subst eK
  refine ⟨fun pins s σ H R I h => ?_⟩
  refine Call_ (ld_blt I hg hm boot_enumerate (PyProof.Rows.callWith_type1 (thn (ha.run pos pins s σ H _ I h) fun us s1 ⟨vs, H1, J1, r1, q1⟩ => ?_) hs rfl))
  obtain ⟨a, xs, rfl, hq, q⟩ := q1
  obtain ⟨u, rfl, ru⟩ := vals1 r1
  cases ru
  obtain ⟨its, rv, p', hz⟩ := J1.tuple hq
  refine call_enumT p' fun h' he hit hk => wpAny_pyIter_enum he ?_
  have J2 : Inv X pins σ H1 { s1 with heap := h' } := J1.kept (t' := s1.toks) hk
  refine ⟨s1.heap.objs.size + 1, [s1.heap.objs.size + 1, s1.heap.objs.size], _, _, H1, rfl, J2, turn_enumT a (s1.heap.objs.size + 1) s1.heap.objs.size, ⟨⟨.none, he⟩, hit, Nat.succ_ne_self _⟩, fun b hb => ?_, q⟩
  have hle : s1.heap.objs.size ≤ b := by
    rcases (by simpa using hb : b = s1.heap.objs.size + 1 ∨ b = s1.heap.objs.size) with z | z
    · rw [z]; exact Nat.le_add_right _ _
    · rw [z]; exact Nat.le_refl _
  exact J1.fpOk hle (J1.hok.fresh hle)
theorem walk_enumT {K : PySem.W.Frag} {a : Addr} {xs : List V} : Walk (IteT K a) xs.length (fun H => SqT K H a xs) (YPair (fun i => some (.int (i : Nat))) (fun i => xs[i]?)) := by
  refine ⟨fun i _ hi q => ⟨xs, xs[i], q, by simp [hi]⟩, fun _ q => ⟨xs, q, rfl⟩, fun i H v H' _ q y => ?_⟩
  obtain ⟨T, x, h1, h2, h3, h4⟩ := y
  exact ⟨T, .int (i : Nat), x, h1, h2, h3, rfl, h4 xs q⟩
end Un

namespace Rw
open PySem PySem.Spec PyProof.Rows L2 Ub Ur Ug Ue Up Uo Ve Va Vk
/-! ### what holds as long as all but N stays -/
def Hold (N : List Addr) (H : Hp) (P : Hp → Prop) : Prop := ∀ H', Kn N H H' → P H'
section
variable {N M : List Addr} {H H' : Hp} {P Q : Hp → Prop}
theorem Hold.now (h : Hold N H P) : P H := h H (Kn.refl H)
theorem Hold.kn (h : Hold N H P) (k : Kn N H H') : Hold N H' P := fun J kj => h J (k.trans kj)
theorem Hold.same (h : Hold N H P) (s : Same H H') : Hold N H' P := h.kn (Kn.of s)
theorem Hold.less (h : Hold N H P) (s : ∀ b ∈ M, b ∈ N) : Hold M H P := fun J kj => h J fun b o e n => kj b o e fun z => n (s b z)
theorem Hold.imp (h : Hold N H P) (i : ∀ J, P J → Q J) : Hold N H Q := fun J kj => i J (h J kj)
theorem Hold.and (h : Hold N H P) (k : Hold N H Q) : Hold N H fun J => P J ∧ Q J := fun J kj => ⟨h J kj, k J kj⟩
/-- places that did not exist may be added -/
theorem Hold.new (h : Hold N H P) (s : Same H H') (n : ∀ b ∈ M, b ∈ N ∨ H b = none) : Hold M H' P := fun J kj => h J fun b o e nb => kj b o (s b o e) fun z => by
  rcases n b z with z | z
  · exact nb z
  · rw [z] at e; cases e
theorem hold_at {a : Addr} {o : HO} (e : H a = some o) (n : a ∉ N) : Hold N H fun J => J a = some o := fun J kj => kj a o e n
theorem hold_dt {v : V} {d : PyData} (h : DtV N H v d) : Hold N H fun J => DtV N J v d := fun J kj => h.keep kj
theorem hold_sh {C x : Addr} {g : Sg} (h : ShG (fun b => b ∉ N) C H x g) (tu : ∀ b xs, H b = some (.tup xs) → b ∉ N) : Hold N H fun J => ShG (fun b => b ∉ N) C J x g := fun J kj => h.kz fun b o e _ hz => kj b o e (by
  rcases hz with hz | ⟨xs, rfl⟩
  · exact hz
  · exact tu _ _ e)
theorem hold_tr {t : Tr} {v : V} (h : TrAt H t v) (tu : ∀ b xs, H b = some (.tup xs) → b ∉ N) : Hold N H fun J => TrAt J t v := fun J kj => h.tups fun c xs e => kj c _ e (tu c xs e)
end
/-! ### the text of parameters, as it is read -/
def parsS : Nat → List Nat → Option Prs
  | 0, _ => none
  | n + 1, s => match scanW s with
    | none => none
    | some w => match scanS 3 (s.drop (w.length + 2)) with
      | none => none
      | some (t, r) => match r with
        | [] => some [(w, t.text)]
        | 44 :: 32 :: r' => (parsS n r').map ((w, t.text) :: ·)
        | _ => none
def readPs (z : Str) : Option Prs := if z = "" then some [] else parsS 3 (cs z)
def rheadM (z : Str) : Option (Str × Prs) :=
  if Txt.startswith z "update " = true ∧ Txt.endswith z "):" = true then
    if (Txt.partition (cutS z (some 7) (some (-2))) "(").2.1 = "" ∨ isWord (Txt.partition (cutS z (some 7) (some (-2))) "(").1 = false then none
    else match readPs (Txt.partition (cutS z (some 7) (some (-2))) "(").2.2 with
      | none => none
      | some ps => if areP (parsD ps) = true then some ((Txt.partition (cutS z (some 7) (some (-2))) "(").1, ps) else none
  else none
def sp_rpars : Sp := fun vs H Q _ => ∃ z, vs = [.str z] ∧ z.length ≤ 100000 ∧ ∀ H', Same H H' → (match readPs z with
  | none => Q .non H'
  | some ps => ∀ v, DtV [] H' v (parsD ps) → Q v H')
def sp_rhead : Sp := fun vs H Q _ => ∃ z, vs = [.str z] ∧ z.length ≤ 10000 ∧ ∀ H', Same H H' → (match rheadM z with
  | none => Q .non H'
  | some r => ∀ p v, H' p = some (.tup [.str r.1, v]) → DtV [] H' v (parsD r.2) → Q (.ref p) H')
theorem parsS_nil : ∀ n, parsS n [] = none
  | 0 => rfl
  | n + 1 => by
    unfold parsS
    have : scanW [] = none := by
      unfold scanW
      exact if_neg fun h => nomatch h.2
    rw [this]
theorem parsS_none1 {n : Nat} {s : List Nat} (h : scanW s = none) : parsS n s = none := by
  cases n with
  | zero => rfl
  | succ n => unfold parsS; rw [h]
theorem parsS_none2 {n : Nat} {s : List Nat} {w : Str} (h : scanW s = some w) (h2 : scanS 3 (s.drop (w.length + 2)) = none) : parsS n s = none := by
  cases n with
  | zero => rfl
  | succ n => unfold parsS; rw [h]; dsimp only; rw [h2]
def nextP (n : Nat) (w : Str) (t : Tr) (r : List Nat) : Option Prs := match r with
  | [] => some [(w, t.text)]
  | 44 :: 32 :: r' => (parsS n r').map ((w, t.text) :: ·)
  | _ => none
theorem parsS_step {n : Nat} {s : List Nat} {w : Str} {t : Tr} {r : List Nat} (h : scanW s = some w) (h2 : scanS 3 (s.drop (w.length + 2)) = some (t, r)) : parsS (n + 1) s = nextP n w t r := by
  conv => lhs; unfold parsS
  rw [h]
  dsimp only
  rw [h2]
  rfl
theorem nextP_bad {n : Nat} {w : Str} {t : Tr} {r : List Nat} (h : r ≠ []) (h2 : r.take 2 ≠ [44, 32]) : nextP n w t r = none := by
  unfold nextP
  split
  · exact absurd rfl h
  · exact absurd rfl h2
  · rfl
/-- what loop's turns keep -/
structure RpI (H0 H : Hp) (z : Str) (b : Addr) (ps : Prs) (us : List V) (here n : Nat) : Prop where
  same : Same H0 H
  lst : H b = some (.lst us)
  dts : DtVs [b] H us (ps.map Up.pairD)
  num : ps.length + n = 3
  le : here ≤ z.length
  go : parsS 3 (cs z) = (parsS n ((cs z).drop here)).map (ps ++ ·)
theorem fine_text {t : Tr} (h : Fine 3 t) : t.text.length ≤ 548 := by
  obtain ⟨_, f2, f3⟩ := fine_has 3 t h
  have := (Tr.join_le f3).2
  have := Nat.le_trans f2 (bnd3 (Nat.le_refl _))
  omega
theorem parsS_small : ∀ {n : Nat} {s : List Nat} {ps : Prs}, parsS n s = some ps → ps.length ≤ n ∧ ∀ m ∈ ps, isWord m.1 = true ∧ m.2.length ≤ 548
  | 0, _, _, h => nomatch h
  | n + 1, s, ps, h => by
    cases hw : scanW s with
    | none => rw [parsS_none1 hw] at h; cases h
    | some w =>
      cases hs : scanS 3 (s.drop (w.length + 2)) with
      | none => rw [parsS_none2 hw hs] at h; cases h
      | some tr =>
        obtain ⟨t, r⟩ := tr
        rw [parsS_step hw hs] at h
        have g1 := (scanW_some hw).1
        have g2 := fine_text (scanS_out _ _ _ _ hs).1
        unfold nextP at h
        split at h
        · have e := Option.some.inj h
          subst e
          refine ⟨by simp, fun m hm => ?_⟩
          have : m = (w, t.text) := by simpa using hm
          rw [this]
          exact ⟨g1, g2⟩
        · rename_i r'
          cases hp : parsS n r' with
          | none => rw [hp] at h; cases h
          | some l =>
            rw [hp] at h
            have e := Option.some.inj h
            subst e
            obtain ⟨i1, i2⟩ := parsS_small hp
            refine ⟨by rw [List.length_cons]; omega, fun m hm => ?_⟩
            rcases List.mem_cons.mp hm with rfl | hm
            · exact ⟨g1, g2⟩
            · exact i2 m hm
        · cases h
theorem readPs_small {z : Str} {ps : Prs} (h : readPs z = some ps) : ps.length ≤ 3 ∧ ∀ m ∈ ps, isWord m.1 = true ∧ m.2.length ≤ 548 := by
  unfold readPs at h
  split at h
  · have e := Option.some.inj h
    subst e
    exact ⟨Nat.zero_le _, fun m hm => nomatch hm⟩
  · exact parsS_small h
theorem pars_sm {ps : Prs} (h : ps.length ≤ 1000) (h2 : ∀ m ∈ ps, m.1.length ≤ 10000 ∧ m.2.length ≤ 10000) : Sm (parsD ps) := fun qs e => by
  injection e with e
  subst e
  refine ⟨by rw [List.length_map]; exact h, fun p hp qs e2 => ?_⟩
  obtain ⟨m, hm, rfl⟩ := List.mem_map.mp hp
  injection e2 with e2
  subst e2
  refine ⟨by simp, fun z hz => ?_⟩
  simp only [List.mem_cons, List.not_mem_nil, or_false] at hz
  rcases hz with e | e
  · injection e with e; rw [e]; exact (h2 m hm).1
  · injection e with e; rw [e]; exact (h2 m hm).2
end Rw

namespace Rw
open PySem PySem.Spec PyProof.Rows L2 Ub Ur Ug Ue Up Uo Ve Va Vk
/-! ### cls(e, .., *y) -/
def tMakeVS (i : Nat) (C : Addr) (sp : Sp) (E : L2.St → XK) (t : TA) : TE := fun σ H Q => σ[i]? = some (some (.ref C)) ∧ tMakeT C sp E t σ H Q
theorem pe_makeVS {X : Cx} {k i : Nat} {x x' : Str} {C : Addr} {sp : Sp} {e : Expr} {es : List Expr} {p pos : Pos} {t : TA} {E : L2.St → XK} (c : CalR X.prog X.w X.K X.mg X.base k x' C sp) (hx : ∀ σ, PassesAt (L2.CX X.prog X.w) X σ (E σ)) (hr : Room (k + 1) X.A) (hN : X.N[i]? = some x) (hv : Vis X.env.scope x)
    (ha : PA X (e :: es) t) (hdb : (x == ("__debug__" : Str)) = false := by decide) (hcd : (x == ("__classdict__" : Str)) = false := by decide) (he : starEach (e :: es) X.env = (false, eval e X.env) :: starEach es X.env := by rfl) (hpl : (backTo pos (starEach es X.env)).any (·.1) = true := by rfl) :
    PE X (.Call (.Name x p) (e :: es) [] pos) (tMakeVS i C sp E t) := by
  obtain ⟨f, M, F, hm⟩ := c.ex
  refine ⟨fun pins s σ H Q I h => ?_⟩
  obtain ⟨hs, h⟩ := h
  refine wpAny_Call_Name_kw (thn ((pe_var (pos := p) (i := i) hN hv hdb hcd).run pins s σ H (fun v H1 => v = .ref C ∧ H1 = H) I ⟨.ref C, hs, rfl, rfl⟩) fun u s0 ⟨v, H0, I0, r0, ev, eH⟩ => ?_)
  subst ev
  rw [eH] at I0
  obtain rfl : u = Value.ref C := r0
  refine PySem.W.callWith_S2 (h₀ := X.base) I.ok.mod.kin M.kp (thn (ha.run pos pins s0 σ H _ I0 h) fun us s1 ⟨vs, H1, J, rv, q⟩ => ⟨J.kIn, ?_⟩) he hpl
  have z := q (s1.heap.objs.size + 1) s1.heap.objs.size (J.hok.fresh (Nat.le_succ _)) (J.hok.fresh (Nat.le_refl _)) (Nat.ne_of_lt (Nat.lt_succ_self _))
  have J2 := Inv.made (C := C) J
  have r2 : Vals (V.ref (s1.heap.objs.size + 1) :: vs) (Value.ref (s1.heap.objs.size + 1) :: us) := .cons rfl rv
  refine wpAny_call (make_map (f := f) J.kIn M.makes M.init (beq_iff_eq.mp M.fn) (codeAny_mono (F _ X.stack _ _ (Value.ref (s1.heap.objs.size + 1) :: us) _ _ (E σ) (hr.make C us []) (J2.env0.make C us []) r2 z) fun r s2 hq => ?_))
  match r, hq with
  | .error e, hq => exact hx σ pins _ _ e s2 J2 hq
  | .ok (.ret u), hq =>
    obtain ⟨v, H2, J3, r3, ev, q3⟩ := J2.after hq
    subst ev
    exact ⟨r3, .ref _, H2, J3, rfl, q3⟩
theorem pa_starK (K : PySem.W.Frag) {X : Cx} {e : Expr} {es : List Expr} {te : TE} {t : TA} {p : Pos} (he : PE X e te) (hr : PA X es t) (hs : starEach (.Starred e p :: es) X.env = (true, eval e X.env) :: starEach es X.env := by rfl) (eK : X.K = K := by rfl) : PA X (.Starred e p :: es) (StX.tStar K te t) := eK ▸ StX.pa_star he hr hs
/-! ### an update as it stands -/
/-- places whose things may change: lists and dicts -/
def LsN (N : List Addr) (H : Hp) : Prop := ∀ n ∈ N, ∃ o, H n = some o ∧ ((∃ xs, o = .lst xs) ∨ ∃ kvs, o = .dK kvs)
theorem LsN.tup {N : List Addr} {H : Hp} (l : LsN N H) : ∀ b xs, H b = some (.tup xs) → b ∉ N := fun b xs e n => by
  obtain ⟨o, h, k⟩ := l b n
  rw [e] at h
  cases h
  rcases k with ⟨_, k⟩ | ⟨_, k⟩ <;> cases k
theorem LsN.ins {N : List Addr} {H : Hp} (l : LsN N H) : ∀ b C dx fs, H b = some (.ins C dx fs) → b ∉ N := fun b C dx fs e n => by
  obtain ⟨o, h, k⟩ := l b n
  rw [e] at h
  cases h
  rcases k with ⟨_, k⟩ | ⟨_, k⟩ <;> cases k
theorem LsN.new {N : List Addr} {H : Hp} (l : LsN N H) {b : Addr} (h : H b = none) : b ∉ N := fun n => by
  obtain ⟨o, e, _⟩ := l b n
  rw [h] at e
  cases e
theorem LsN.same {N : List Addr} {H H' : Hp} (l : LsN N H) (s : Same H H') : LsN N H' := fun n hn => by
  obtain ⟨o, e, k⟩ := l n hn
  exact ⟨o, s _ _ e, k⟩
def UpAt (N : List Addr) (K : PySem.W.Frag) (H : Hp) (u sh : Addr) (g : Sg) (ps : Prs) (zs : List Str) : Prop := ∃ (dx : Addr) (pv : V) (rs ks ws : Addr), H u = some (.ins (He.ga K "Update") dx (upF sh pv rs ks ws)) ∧ u ∉ N ∧ DtV N H pv (parsD ps) ∧ H rs = some (.tup (zs.map V.str)) ∧ rs ∉ N ∧
  KindsAt (fun b => b ∉ N) (He.ga K "Shape") H ks ps ∧ WritAt (fun b => b ∉ N) K H ws g.tr ps (secsM zs) ∧ ShG (fun b => b ∉ N) (He.ga K "Shape") H sh g ∧ good g.tr ∧ areP (parsD ps) = true ∧ badAt g.tr ps [] (zs.map some) 0 = none
theorem KindsAt.keep {Z Z' : Addr → Prop} {C : Addr} {H H' : Hp} {ks : Addr} {ps : Prs} (k : ∀ b o, H b = some o → (Z b ∨ ∃ xs, o = .tup xs) → H' b = some o) (kz : ∀ b, Z b → H b ≠ none → Z' b) (h : KindsAt Z C H ks ps) : KindsAt Z' C H' ks ps := by
  obtain ⟨z, qs, h1, h2, h3⟩ := h
  refine ⟨kz _ z (by rw [h1]; simp), qs, k _ _ h1 (.inl z), h2, fun i m hm => ?_⟩
  obtain ⟨q, x, g, e1, e2, e3, e4, e5⟩ := h3 i m hm
  exact ⟨q, x, g, e1, k _ _ e2 (.inr ⟨_, rfl⟩), ((e3.imp (Z' := fun b => Z b ∧ H b ≠ none) fun b z h => ⟨z, h⟩).kz fun b o h _ hz => k b o h (hz.imp (fun z => z.1) fun z => z)).imp fun b z _ => kz b z.1 z.2, e4, e5⟩
section
variable {N M : List Addr} {K : PySem.W.Frag} {H H' : Hp} {u sh : Addr} {g : Sg} {ps : Prs} {zs : List Str}
theorem UpAt.kn (h : UpAt N K H u sh g ps zs) (l : LsN N H) (k : Kn N H H') : UpAt N K H' u sh g ps zs := by
  obtain ⟨dx, pv, rs, ks, ws, h1, h2, h3, h4, h5, h6, h7, h8, h9⟩ := h
  have kt : ∀ b o, H b = some o → (b ∉ N ∨ ∃ xs, o = .tup xs) → H' b = some o := fun b o e hz => k b o e (by
    rcases hz with hz | ⟨xs, rfl⟩
    · exact hz
    · exact l.tup _ _ e)
  refine ⟨dx, pv, rs, ks, ws, k _ _ h1 h2, h2, h3.keep k, k _ _ h4 h5, h5, h6.keep kt fun _ z _ => z, ?_, h8.kz fun b o e _ hz => kt b o e hz, h9⟩
  exact h7.keep (Z' := fun b => b ∉ N) (fun b C dx fs e _ => k b _ e (l.ins _ _ _ _ e)) (fun b xs e n => k b _ e n) fun _ z _ => z
end
abbrev SpU (K : PySem.W.Frag) : Sp := fun vs H Q E => ∃ ws rest, vs = ws ++ rest ∧ ws.length = 3 ∧ rest.length ≤ sizeLine ∧ ∀ p, H p = none → sp_update K (He.ga K "Update") (He.ga K "Shape") (He.ga K "BadParameters") (He.ga K "BadRow") (ws ++ [V.ref p]) (upd H p (.tup rest)) Q E
theorem areP_small {ps : Prs} (h : areP (parsD ps) = true) : ps.length ≤ 3 ∧ ∀ m ∈ ps, m.2.length ≤ 548 ∧ ∃ t, shapeOf m.2 = some t := by
  obtain ⟨ds, e, l3, hP⟩ := areP_tup h
  injection e with e
  refine ⟨by rw [← List.length_map (f := Up.pairD), e]; exact l3, fun m hm => ?_⟩
  obtain ⟨w, z, t, e2, e3⟩ := parP_all hP (Up.pairD m) (by rw [← e]; exact List.mem_map.mpr ⟨m, hm, rfl⟩)
  injection e2 with e2
  injection e2 with _ e2
  injection e2 with e2
  injection e2 with e2
  rw [← e2] at e3
  obtain ⟨hg, hz⟩ := shapeOf_out e3
  exact ⟨by rw [hz]; exact fine_text hg.1, t, e3⟩
theorem parP_words : ∀ {ds : List PyData} {ws : List Str} {ns : List Nat}, parP ds ws ns = true → ∀ d ∈ ds, ∃ w z, d = .tuple [.str w, .str z] ∧ isWord w = true ∧ w ∉ ws
  | [], _, _, _, d, hd => nomatch hd
  | d0 :: r, ws, ns, h, d, hd => by
    cases e : pair1 ws d0 with
    | none => rw [parP_none e] at h; cases h
    | some p =>
      obtain ⟨w, t⟩ := p
      rw [parP_some e] at h
      rcases List.mem_cons.mp hd with rfl | hd
      · unfold pair1 at e
        split at e
        · rename_i w' z
          split at e
          · split at e
            · rename_i hc
              exact ⟨w', z, rfl, hc⟩
            · cases e
          · cases e
        · cases e
      · obtain ⟨w', z, h1, h2, h3⟩ := parP_words h d hd
        exact ⟨w', z, h1, h2, fun n => h3 (List.mem_append_left _ n)⟩
theorem areP_words {ps : Prs} (h : areP (parsD ps) = true) : ∀ m ∈ ps, isWord m.1 = true := fun m hm => by
  obtain ⟨ds, e, l3, hP⟩ := areP_tup h
  injection e with e
  obtain ⟨w, z, e2, e3, _⟩ := parP_words hP (Up.pairD m) (by rw [← e]; exact List.mem_map.mpr ⟨m, hm, rfl⟩)
  injection e2 with e2
  injection e2 with e2 _
  injection e2 with e2
  rw [e2]
  exact e3
theorem areP_sm {ps : Prs} (h : areP (parsD ps) = true) : Sm (parsD ps) := pars_sm (by have := (areP_small h).1; omega) fun m hm => ⟨by have := (isWord_len (areP_words h m hm)).2; omega, by have := ((areP_small h).2 m hm).1; omega⟩
/-- the making of an update that fits -/
theorem mkU {N : List Addr} {K : PySem.W.Frag} {H1 : Hp} {sh : Addr} {g : Sg} {pv : V} {ps : Prs} {zs : List Str} {Q : VK} {E : XK} (ls : LsN N H1) (hs : ShG (fun b => b ∉ N) (He.ga K "Shape") H1 sh g) (gd : good g.tr) (hp : DtV N H1 pv (parsD ps)) (ha : areP (parsD ps) = true)
    (hb : badAt g.tr ps [] (zs.map some) 0 = none) (hz : ∀ z ∈ zs, z.length ≤ 100000) (hl : zs.length ≤ 100) (q : ∀ x H', Same H1 H' → H1 x = none → UpAt N K H' x sh g ps zs → Q (.ref x) H') :
    ∀ x dx, H1 x = none → H1 dx = none → dx ≠ x → SpU K (V.ref x :: V.ref sh :: pv :: zs.map V.str) (upd (upd H1 dx (.own x)) x (.ins (He.ga K "Update") dx [])) (fun v H2 => v = .non ∧ Q (.ref x) H2) E := by
  intro x dx nx ndx nne
  have s1 : Same H1 (upd (upd H1 dx (.own x)) x (.ins (He.ga K "Update") dx [])) := (same_upd ndx).trans (same_upd (by rw [upd_ne nne.symm]; exact nx))
  have hx : (upd (upd H1 dx (.own x)) x (.ins (He.ga K "Update") dx [])) x = some (.ins (He.ga K "Update") dx []) := upd_same
  generalize upd (upd H1 dx (.own x)) x (.ins (He.ga K "Update") dx []) = H2 at *
  refine ⟨[.ref x, .ref sh, pv], zs.map V.str, rfl, rfl, by rw [List.length_map]; exact Nat.le_trans hl (by decide), fun p np => ?_⟩
  have sp := same_upd (o := .tup (zs.map V.str)) np
  have hp3 : (upd H2 p (.tup (zs.map V.str))) p = some (.tup (zs.map V.str)) := upd_same
  generalize upd H2 p (.tup (zs.map V.str)) = H3 at *
  have s13 := s1.trans sp
  have pN : p ∉ N := (ls.same s1).new np
  refine ⟨x, dx, sh, g, _, pv, parsD ps, p, zs.map V.str, zs.map some, rfl, sp _ _ hx, hs.kz (kz_of s13), gd, (hp.same s13).free, areP_sm ha, hp3, by rw [List.length_map, List.length_map], by rw [List.length_map]; exact hl, fun i v o hv ho => ?_, (fun h => by rw [ha] at h; cases h), fun ps' e _ => ?_⟩
  · rw [List.getElem?_map] at hv ho
    cases e : zs[i]? with
    | none => rw [e] at hv; cases hv
    | some z =>
      rw [e] at hv ho
      cases hv
      cases ho
      exact ⟨⟨rfl, hz z (List.mem_of_getElem? e)⟩, rfl, fun z => nomatch z⟩
  have e : ps = ps' := by
    injection e with e
    have : ∀ {a b : Prs}, a.map Up.pairD = b.map Up.pairD → a = b := by
      intro a
      induction a with
      | nil => intro b h; cases b with
        | nil => rfl
        | cons _ _ => cases h
      | cons m a ih => intro b h; cases b with
        | nil => cases h
        | cons n b =>
          rw [List.map_cons, List.map_cons] at h
          injection h with h1 h2
          injection h1 with h1
          injection h1 with h1 h3
          injection h1 with h1
          injection h3 with h3
          injection h3 with h3
          rw [ih h2, Prod.ext h1 h3]
    exact this e
  subst e
  rw [hb]
  intro ks ws H4 k4 hx4 hk hw
  have sF : Same H1 H4 := fun b o e => k4 _ _ (s13 _ _ e) (ne_of_none e nx)
  have zN : ∀ b, H3 b = none → b ∉ N := fun b h => (ls.same s13).new h
  exact ⟨rfl, q x H4 sF nx ⟨dx, pv, p, ks, ws, hx4, ls.new nx, hp.same sF, k4 _ _ hp3 (ne_of hp3 (sp _ _ hx) (by intro z; cases z)), pN, hk.keep (fun b o h _ => h) fun b z _ => zN b z, (hw zs rfl).keep (fun _ _ _ _ h _ => h) (fun _ _ h _ => h) (fun b z _ => zN b z), hs.kz (kz_of sF), gd, ha, hb⟩⟩
/-! ### the text of an update -/
def linesM (t : Tr) (ps : Prs) : List Str → List Str → Nat → Nat ⊕ List Str
  | rs, [], _ => .inr rs
  | rs, l :: r, i => if Txt.startswith l "    " = true ∧ fitsM t ps rs (cutS l (some 4) none) = true then linesM t ps (rs ++ [cutS l (some 4) none]) r (i + 1) else .inl (i + 1)
def readM (t : Tr) (z : Str) : Nat ⊕ (Prs × List Str) := match Txt.split z "\n" with
  | [] => .inl 0
  | l :: r => match rheadM l with
    | none => .inl 0
    | some h => match linesM t h.2 [] r 0 with
      | .inl i => .inl i
      | .inr rs => .inr (h.2, rs)
def sp_read (K : PySem.W.Frag) : Sp := fun vs H Q E => ∃ N sh g v, vs = [.ref (He.ga K "Update"), .ref sh, v] ∧ LsN N H ∧ ShG (fun b => b ∉ N) (He.ga K "Shape") H sh g ∧ good g.tr ∧
  ((∃ z : Str, v = .str z ∧ z.length ≤ 10000 ∧ (match readM g.tr z with
    | .inl i => ∀ e H', Same H H' → H e = none → H' e = some (.xd [("at", .int (i : Nat))]) → E (.ref (He.ga K "BadLine")) (some e) H'
    | .inr r => ∀ x H', Same H H' → H x = none → UpAt N K H' x sh g r.1 r.2 → Q (.ref x) H')) ∨
   (NotStr K H v ∧ ∀ e H', Same H H' → H e = none → H' e = some (.xd [("at", .int (-1))]) → E (.ref (He.ga K "BadLine")) (some e) H'))
theorem bad_app {t : Tr} {ps : Prs} {z : Str} : ∀ {os rs : List Str} {i : Nat}, badAt t ps rs (os.map some) i = none → fitsM t ps (rs ++ os) z = true → badAt t ps rs ((os ++ [z]).map some) i = none
  | [], rs, i, _, h => by
    rw [List.append_nil] at h
    show (if fitsV t ps rs (some z) = true then badAt t ps (rs ++ [(some z).getD Str.empty]) [] (i + 1) else some i) = none
    rw [if_pos (show fitsV t ps rs (some z) = true from h)]
    rfl
  | o :: os, rs, i, h, hf => by
    have h : (if fitsV t ps rs (some o) = true then badAt t ps (rs ++ [o]) (os.map some) (i + 1) else some i) = none := h
    show (if fitsV t ps rs (some o) = true then badAt t ps (rs ++ [o]) ((os ++ [z]).map some) (i + 1) else some i) = none
    by_cases c : fitsV t ps rs (some o) = true
    · rw [if_pos c] at h ⊢
      exact bad_app h (by rw [List.append_assoc]; exact hf)
    · rw [if_neg c] at h
      cases h
theorem lines_ok {t : Tr} {ps : Prs} {zs : List Str} : ∀ {r rs : List Str} {i : Nat}, linesM t ps rs r i = .inr zs → badAt t ps [] (rs.map some) 0 = none → badAt t ps [] (zs.map some) 0 = none
  | [], rs, i, h, hb => by
    have h : Sum.inr rs = Sum.inr zs := h
    injection h with h
    rw [← h]
    exact hb
  | l :: r, rs, i, h, hb => by
    have h : (if Txt.startswith l "    " = true ∧ fitsM t ps rs (cutS l (some 4) none) = true then linesM t ps (rs ++ [cutS l (some 4) none]) r (i + 1) else .inl (i + 1)) = Sum.inr zs := h
    by_cases c : Txt.startswith l "    " = true ∧ fitsM t ps rs (cutS l (some 4) none) = true
    · rw [if_pos c] at h
      exact lines_ok h (bad_app hb c.2)
    · rw [if_neg c] at h
      cases h
theorem thens_snoc (rs : List Str) (z : Str) : thensM (rs ++ [z]) = thensM rs + if z = "then" then 1 else 0 := by
  unfold thensM
  rw [List.filter_append, List.length_append]
  congr 1
  by_cases e : z = "then"
  · rw [if_pos e, List.filter_cons, decide_eq_true e]
    rfl
  · rw [if_neg e, List.filter_cons, decide_eq_false e]
    rfl
/-- what rows that fit are bounded by -/
def Few (rs : List Str) : Prop := thensM rs ≤ 3 ∧ rs.length ≤ thensM rs + 8
theorem Few.len {rs : List Str} (h : Few rs) : rs.length ≤ 11 := by have := h.1; have := h.2; omega
theorem Few.nil : Few [] := ⟨by decide, by decide⟩
theorem Few.snoc {t : Tr} {ps : Prs} {rs : List Str} {z : Str} (h : Few rs) (f : fitsM t ps rs z = true) : Few (rs ++ [z]) := by
  obtain ⟨h1, h2⟩ := h
  unfold fitsM at f
  unfold Few
  rw [thens_snoc, List.length_append]
  by_cases e : z = "then"
  · rw [if_pos e] at f ⊢
    have f := of_decide_eq_true f
    exact ⟨by omega, by simp only [List.length_cons, List.length_nil]; omega⟩
  · rw [if_neg e, Bool.and_eq_true] at f
    rw [if_neg e]
    have f := of_decide_eq_true f.1
    have := thens_le rs
    exact ⟨by omega, by simp only [List.length_cons, List.length_nil]; omega⟩
theorem bad_few {t : Tr} {ps : Prs} : ∀ {os rs : List Str} {i : Nat}, badAt t ps rs (os.map some) i = none → Few rs → Few (rs ++ os)
  | [], rs, i, _, h => by rw [List.append_nil]; exact h
  | o :: os, rs, i, h, hf => by
    have h : (if fitsV t ps rs (some o) = true then badAt t ps (rs ++ [o]) (os.map some) (i + 1) else some i) = none := h
    by_cases c : fitsV t ps rs (some o) = true
    · rw [if_pos c] at h
      have := bad_few h (hf.snoc c)
      rw [List.append_assoc] at this
      exact this
    · rw [if_neg c] at h
      cases h
theorem rhead_ok {z : Str} {r : Str × Prs} (h : rheadM z = some r) : areP (parsD r.2) = true := by
  unfold rheadM at h
  split at h
  · split at h
    · cases h
    · split at h
      · cases h
      · split at h
        · rename_i ha
          cases h
          exact ha
        · cases h
  · cases h
theorem join_mem {y p : Str} : ∀ {ws : List Str}, p ∈ ws → p.length ≤ (Str.join y ws).length
  | [x], h => by
    have : p = x := by simpa using h
    rw [this]
    exact Nat.le_refl _
  | x :: x2 :: r, h => by
    show p.length ≤ (x ++ y ++ Str.join y (x2 :: r)).length
    rw [len_app, len_app]
    rcases List.mem_cons.mp h with rfl | h
    · omega
    · have := join_mem (y := y) h
      omega
theorem split_mem {z y p : Str} (h : p ∈ Txt.split z y) : p.length ≤ z.length := by
  have := join_mem (y := y) h
  rwa [PySem.StrLaws.join_split] at this
theorem split_cons (z y : Str) : ∃ l r, Txt.split z y = l :: r := by
  have := (fact_split z y).1
  cases e : Txt.split z y with
  | nil => rw [e] at this; simp at this
  | cons l r => exact ⟨l, r, rfl⟩
theorem pi_enumK (K : PySem.W.Frag) {X : Cx} {e : Expr} {ta : TA} {p pos tpos : Pos} {elts : List Expr} {kk : Nat} (hg : Gl X "enumerate") (hm : X.mg "enumerate" = none) (ha : PA X [e] ta) (hs : starEach [e] X.env = [(false, eval e X.env)] := by rfl) (eK : X.K = K := by rfl) :
    PI X (.Tuple elts kk tpos) (.Call (.Name "enumerate" p) [e] [] pos) (iEnum K ta) := eK ▸ pi_enum hg hm ha hs
/-- parameters lie in tuples -/
theorem pars_to {N M : List Addr} {H H' : Hp} {v : V} {ps : Prs} (h : DtV N H v (parsD ps)) (k : ∀ b xs, H b = some (.tup xs) → b ∉ N → H' b = some (.tup xs) ∧ b ∉ M) : DtV M H' v (parsD ps) := by
  cases h with
  | tup hp n hx =>
    refine .tup (k _ _ hp n).1 (k _ _ hp n).2 ?_
    have go : ∀ {xs : List V} {ps : Prs}, DtVs N H xs (ps.map Up.pairD) → DtVs M H' xs (ps.map Up.pairD) := by
      intro xs ps hx
      induction ps generalizing xs with
      | nil =>
        cases hx
        exact .nil
      | cons m ps ih =>
        rw [List.map_cons] at hx ⊢
        cases hx with
        | cons h1 h2 =>
          refine .cons ?_ (ih h2)
          cases h1 with
          | tup hp' n' hx' =>
            refine .tup (k _ _ hp' n').1 (k _ _ hp' n').2 ?_
            cases hx' with
            | cons a b =>
              cases a
              cases b with
              | cons b c =>
                cases b
                cases c
                exact .cons (.str _) (.cons (.str _) .nil)
    exact go hx
theorem pars_keep {N : List Addr} {H H' : Hp} {v : V} {ps : Prs} (h : DtV N H v (parsD ps)) (k : ∀ b xs, H b = some (.tup xs) → H' b = some (.tup xs)) : DtV N H' v (parsD ps) := pars_to h fun b xs e n => ⟨k b xs e, n⟩
theorem LsN.pars {N : List Addr} {H : Hp} {v : V} {ps : Prs} (l : LsN N H) (h : DtV [] H v (parsD ps)) : DtV N H v (parsD ps) := pars_to h fun b xs e _ => ⟨e, l.tup b xs e⟩
theorem noPart {σ : L2.St} {H : Hp} {R : Option Int → Hp → Prop} (h : R none H) : tNoPart σ H R := h
theorem tcI {v : V} {σ : L2.St} {H : Hp} {Q : VK} (h : Q v H) : tC v σ H Q := h
end Rw

namespace Rw
open PySem PySem.Spec PyProof.Rows L2 Ub Ur Ug Ue Up Uo Ve Va Vk
/-! ### rows that fit are short texts of small signs -/
theorem part_sum (x y : Str) : (Txt.partition x y).1 ++ (Txt.partition x y).2.1 ++ (Txt.partition x y).2.2 = x := PySem.StrLaws.partition_sum x y
theorem part_sep (x y : Str) : (Txt.partition x y).2.1 = "" ∨ (Txt.partition x y).2.1 = y := by
  rcases PyProof.Rows.partition_whole x y with ⟨h, _⟩ | ⟨i, h, _⟩
  · rw [h]; exact .inl rfl
  · rw [h]; exact .inr rfl
/-- a text of small signs, not longer than n -/
def Al (n : Nat) (z : Str) : Prop := Asc z ∧ z.length ≤ n
theorem Al.app {n m : Nat} {a b : Str} (h : Al n a) (k : Al m b) : Al (n + m) (a ++ b) := ⟨asc_app h.1 k.1, by rw [len_app]; exact Nat.add_le_add h.2 k.2⟩
theorem Al.mono {n m : Nat} {a : Str} (h : Al n a) (k : n ≤ m) : Al m a := ⟨h.1, Nat.le_trans h.2 k⟩
theorem al_part {x y : Str} {l n m : Nat} (hy : Al n y) (h1 : Al l (Txt.partition x y).1) (h2 : Al m (Txt.partition x y).2.2) : Al (l + n + m) x := by
  have := part_sum x y
  rw [← this]
  refine (h1.app ?_).app h2
  rcases part_sep x y with e | e
  · rw [e]; exact ⟨asc_of (by decide +kernel), Nat.zero_le _⟩
  · rw [e]; exact hy
theorem pks_al {t : Tr} (h : good t) {p : Str} {u : Tr} (hm : (p, u) ∈ paths t) : Al 28 p := by
  have := paths_good 3 (good_has h).1 h _ hm
  exact ⟨this.a, this.l⟩
theorem lookup_in {α : Type} {l : List (Str × α)} {p : Str} {u : α} (h : l.lookup p = some u) : (p, u) ∈ l := by
  induction l with
  | nil => cases h
  | cons a l ih =>
    obtain ⟨k, v⟩ := a
    rw [List.lookup_cons] at h
    cases e : p == k with
    | true =>
      rw [e] at h
      have := eq_of_beq e
      cases h
      rw [this]
      exact List.mem_cons_self ..
    | false =>
      rw [e] at h
      exact List.mem_cons_of_mem _ (ih h)
theorem atM_al {t : Tr} (h : good t) {p : Str} {u : Tr} (e : atM t p = some u) : Al 28 p := by
  unfold atM at e
  split at e
  · cases e
  · exact pks_al h (lookup_in e)
theorem givenM_al : ∀ {ps : Prs}, (∀ m ∈ ps, isWord m.1 = true) → ∀ {z : Str} {r : Str × Str × Str}, givenM ps z = some r → Al 8 z
  | [], _, _, _, h => nomatch h
  | p :: ps, hw, z, r, h => by
    have h : (if p.1 = z then some (("given" : Str), p.1, p.2) else givenM ps z) = some r := h
    split at h
    · rename_i e
      rw [← e]
      have := hw p (List.mem_cons_self ..)
      exact ⟨word_asc this, (isWord_len this).2⟩
    · exact givenM_al (fun m hm => hw m (List.mem_cons_of_mem _ hm)) h
theorem termM_al {t : Tr} (h : good t) {ps : Prs} (hw : ∀ m ∈ ps, isWord m.1 = true) {z : Str} {r : Str × Str × Str} (e : termM t ps z = some r) : Al 33 z := by
  unfold termM at e
  cases eg : givenM ps z with
  | some q => exact (givenM_al hw eg).mono (by omega)
  | none =>
    rw [eg] at e
    dsimp only at e
    have pth : ∀ {s p : Str}, pathM t s p = some r → Al 28 p := fun {s p} e => by
      unfold pathM at e
      cases ea : atM t p with
      | none => rw [ea] at e; cases e
      | some u => exact atM_al h ea
    cases es : srcM z with
    | none => rw [es] at e; cases e
    | some q =>
      obtain ⟨s, p⟩ := q
      rw [es] at e
      have hp := pth e
      unfold srcM at es
      split at es
      · cases es
        exact hp.mono (by omega)
      · split at es
        · rename_i ho
          cases es
          refine al_part (l := 4) (n := 1) (m := 28) ⟨asc_of (by decide +kernel), by decide +kernel⟩ ?_ hp
          rcases ho with ho | ho <;> rw [ho] <;> exact ⟨asc_of (by decide +kernel), by decide +kernel⟩
        · cases es
theorem marks_al : ∀ m ∈ marks, Al 5 m := fun m hm => by
  have h := List.all_eq_true.mp (show marks.all (fun m => ascB m && decide (m.length ≤ 5)) = true by decide +kernel) m hm
  rw [Bool.and_eq_true] at h
  exact ⟨asc_of h.1, of_decide_eq_true h.2⟩
theorem rowM_al {t : Tr} (h : good t) {ps : Prs} (hw : ∀ m ∈ ps, isWord m.1 = true) {z : Str} {r : Str × Str × Str × Str} (e : rowM t ps z = some r) : Al 70 z := by
  unfold rowM at e
  split at e
  · cases e
  · split at e
    · cases e
    · rename_i hm
      have hm := Classical.not_not.mp hm
      cases ea : atM t (Txt.partition (headM z) " ").2.2 with
      | none => rw [ea] at e; cases e
      | some u =>
        rw [ea] at e
        dsimp only at e
        cases et : termM t ps (Txt.partition z " = ").2.2 with
        | none => rw [et] at e; cases e
        | some q =>
          have h1 : Al (5 + 1 + 28) (headM z) := al_part ⟨asc_of (by decide +kernel), by decide +kernel⟩ (marks_al _ hm) (atM_al h ea)
          exact al_part (l := 34) (n := 3) (m := 33) ⟨asc_of (by decide +kernel), by decide +kernel⟩ h1 (termM_al h hw et)
theorem fitsM_al {t : Tr} (h : good t) {ps : Prs} (hw : ∀ m ∈ ps, isWord m.1 = true) {rs : List Str} {z : Str} (e : fitsM t ps rs z = true) : Al 70 z := by
  unfold fitsM at e
  split at e
  · rename_i ez
    rw [ez]
    exact ⟨asc_of (by decide +kernel), by decide +kernel⟩
  · rw [Bool.and_eq_true] at e
    obtain ⟨r, hr⟩ := Option.isSome_iff_exists.mp e.2
    exact rowM_al h hw hr
theorem bad_al {t : Tr} (h : good t) {ps : Prs} (hw : ∀ m ∈ ps, isWord m.1 = true) : ∀ {os rs : List Str} {i : Nat}, badAt t ps rs (os.map some) i = none → ∀ z ∈ os, Al 70 z
  | [], _, _, _, z, hz => nomatch hz
  | o :: os, rs, i, e, z, hz => by
    have e : (if fitsV t ps rs (some o) = true then badAt t ps (rs ++ [o]) (os.map some) (i + 1) else some i) = none := e
    by_cases c : fitsV t ps rs (some o) = true
    · rw [if_pos c] at e
      rcases List.mem_cons.mp hz with rfl | hz
      · exact fitsM_al h hw c
      · exact bad_al h hw e z hz
    · rw [if_neg c] at e
      cases e
section
variable {N : List Addr} {K : PySem.W.Frag} {H : Hp} {u sh : Addr} {g : Sg} {ps : Prs} {zs : List Str}
theorem UpAt.areP (h : UpAt N K H u sh g ps zs) : areP (parsD ps) = true := by
  obtain ⟨_, _, _, _, _, _, _, _, _, _, _, _, _, _, a, _⟩ := h
  exact a
theorem UpAt.bad (h : UpAt N K H u sh g ps zs) : badAt g.tr ps [] (zs.map some) 0 = none := by
  obtain ⟨_, _, _, _, _, _, _, _, _, _, _, _, _, _, _, a⟩ := h
  exact a
theorem UpAt.good (h : UpAt N K H u sh g ps zs) : good g.tr := by
  obtain ⟨_, _, _, _, _, _, _, _, _, _, _, _, _, a, _⟩ := h
  exact a
theorem UpAt.shape (h : UpAt N K H u sh g ps zs) : ShG (fun b => b ∉ N) (He.ga K "Shape") H sh g := by
  obtain ⟨_, _, _, _, _, _, _, _, _, _, _, _, a, _⟩ := h
  exact a
theorem UpAt.few (h : UpAt N K H u sh g ps zs) : Few zs := bad_few h.bad Few.nil
theorem UpAt.al (h : UpAt N K H u sh g ps zs) : ∀ z ∈ zs, Al 70 z := bad_al h.good (areP_words h.areP) h.bad
theorem UpAt.l3 (h : UpAt N K H u sh g ps zs) : ps.length ≤ 3 := (areP_small h.areP).1
end
theorem pars_asc {ps : Prs} (h : areP (parsD ps) = true) : ∀ m ∈ ps, Al 8 m.1 ∧ Al 548 m.2 := fun m hm => by
  have hw := areP_words h m hm
  obtain ⟨l, t, ht⟩ := (areP_small h).2 m hm
  obtain ⟨gd, e⟩ := shapeOf_out ht
  exact ⟨⟨word_asc hw, (isWord_len hw).2⟩, by rw [e]; exact text_asc gd.1, l⟩
/-! ### data of texts -/
theorem canAll {ds : List PyData} (h : ∀ d ∈ ds, d.canLay0 = true) : PyData.canLayAll0 ds = true := by
  induction ds with
  | nil => rfl
  | cons d ds ih =>
    show (d.canLay0 && PyData.canLayAll0 ds) = true
    rw [h d (List.mem_cons_self ..), ih fun x hx => h x (List.mem_cons_of_mem _ hx)]
    rfl
theorem strsT_sh {zs : List Str} (h : ∀ z ∈ zs, Asc z) : SeqAt.shaped (.tuple (zs.map PyData.str)) = true := strsT_shaped h
theorem pair_can {m : Str × Str} (h : Asc m.1 ∧ Asc m.2) : (Up.pairD m).canLay0 = true := canAll fun d hd => by
  simp only [List.mem_cons, List.not_mem_nil, or_false] at hd
  rcases hd with rfl | rfl
  · exact strOk_asc h.1
  · exact strOk_asc h.2
theorem pars_sh {ps : Prs} (h : ∀ m ∈ ps, Asc m.1 ∧ Asc m.2) : SeqAt.shaped (parsD ps) = true := by
  have h1 : (parsD ps).canLay0 = true := canAll fun d hd => by
    obtain ⟨m, hm, rfl⟩ := List.mem_map.mp hd
    exact pair_can (h m hm)
  have h2 : (parsD ps).depth ≤ 64 := by
    have : PyData.depthAll (ps.map Up.pairD) ≤ 2 := all_depth fun d hd => by
      obtain ⟨m, hm, rfl⟩ := List.mem_map.mp hd
      exact (show (1 : Nat) ≤ 2 by decide)
    show PyData.depthAll (ps.map Up.pairD) + 1 ≤ 64
    omega
  unfold SeqAt.shaped
  rw [h1, decide_eq_true h2]
  rfl
theorem strs_eqvA : ∀ a b : List Str, PyData.eqvAll (a.map PyData.str) (b.map PyData.str) = decide (a = b)
  | [], [] => rfl
  | [], _ :: _ => rfl
  | _ :: _, [] => rfl
  | x :: a, y :: b => by
    show (PyData.eqv (.str x) (.str y) && PyData.eqvAll (a.map PyData.str) (b.map PyData.str)) = _
    rw [strs_eqvA a b, eqv_strs]
    by_cases e : x = y
    · subst e
      simp
    · rw [beq_eq_false_iff_ne.mpr e, Bool.false_and, decide_eq_false (fun z => e (List.cons.inj z).1)]
theorem strsT_eqv (a b : List Str) : PyData.eqv (.tuple (a.map PyData.str)) (.tuple (b.map PyData.str)) = decide (a = b) := strs_eqvA a b
theorem pairs_eqvA : ∀ a b : Prs, PyData.eqvAll (a.map Up.pairD) (b.map Up.pairD) = decide (a = b)
  | [], [] => rfl
  | [], _ :: _ => rfl
  | _ :: _, [] => rfl
  | x :: a, y :: b => by
    show ((PyData.eqv (.str x.1) (.str y.1) && (PyData.eqv (.str x.2) (.str y.2) && true)) && PyData.eqvAll (a.map Up.pairD) (b.map Up.pairD)) = _
    rw [pairs_eqvA a b, eqv_strs, eqv_strs, Bool.and_true]
    by_cases e : x = y
    · subst e
      simp
    · have : (x.1 == y.1 && x.2 == y.2) = false := by
        rw [Bool.and_eq_false_iff, beq_eq_false_iff_ne, beq_eq_false_iff_ne]
        by_cases e1 : x.1 = y.1
        · exact .inr fun e2 => e (Prod.ext e1 e2)
        · exact .inl e1
      rw [this, Bool.false_and, decide_eq_false (fun z => e (List.cons.inj z).1)]
theorem pars_eqv (a b : Prs) : PyData.eqv (parsD a) (parsD b) = decide (a = b) := pairs_eqvA a b
/-! ### what an update tells -/
def plM (z : Str) : Nat := match shapeOf z with
  | some t => t.plains
  | none => 0
def slotsM (ps : Prs) : Nat := (ps.map fun m => plM m.2).sum
def marksM (zs : List Str) : List Str := (zs.filter fun z : Str => decide (z ≠ ("then" : Str))).map fun z => (Txt.partition z " ").1
def sp_slots (K : PySem.W.Frag) : Sp := fun vs H Q _ => ∃ N u sh g ps zs, vs = [.ref u] ∧ UpAt N K H u sh g ps zs ∧ ∀ H', Same H H' → Q (.int (slotsM ps : Nat)) H'
def sp_marks (K : PySem.W.Frag) : Sp := fun vs H Q _ => ∃ N u sh g ps zs, vs = [.ref u] ∧ UpAt N K H u sh g ps zs ∧ ∀ p H', Same H H' → H' p = some (.tup ((marksM zs).map V.str)) → Q (.ref p) H'
def sp_secs (K : PySem.W.Frag) : Sp := fun vs H Q _ => ∃ N u sh g ps zs, vs = [.ref u] ∧ UpAt N K H u sh g ps zs ∧ ∀ v H', Same H H' → DtV [] H' v (secsD zs) → Q v H'
def sp_ueq (K : PySem.W.Frag) : Sp := fun vs H Q _ => ∃ N u sh g ps zs y, vs = [.ref u, y] ∧ UpAt N K H u sh g ps zs ∧
  ((∃ N' u' sh' g' ps' zs', y = .ref u' ∧ UpAt N' K H u' sh' g' ps' zs' ∧ Q (.bl (decide (g.tr.text = g'.tr.text ∧ ps = ps' ∧ zs = zs'))) H) ∨ (∃ T : String, TyX K H y (.type T) ∧ PySem.W.kitOne K (.type T) (.ref (He.ga K "Update")) = some false ∧ Q (.bl false) H))
def sp_ustr (K : PySem.W.Frag) : Sp := fun vs H Q _ => ∃ N u sh g ps zs, vs = [.ref u] ∧ UpAt N K H u sh g ps zs ∧ Q (.str (Str.join "\n" zs)) H
theorem slots_sum : ∀ ps : Prs, (ps.map fun m => ((plM m.2 : Nat) : Int)).sum = ((slotsM ps : Nat) : Int)
  | [] => rfl
  | m :: r => by
    have ih := slots_sum r
    unfold slotsM at ih ⊢
    rw [List.map_cons, List.map_cons, List.sum_cons, List.sum_cons, ih]
    omega
theorem marks_fm : ∀ zs : List Str, zs.filterMap (fun z : Str => if z = ("then" : Str) then none else some (V.str (Txt.partition z " ").1)) = (marksM zs).map V.str
  | [] => rfl
  | z :: r => by
    have ih := marks_fm r
    unfold marksM at ih ⊢
    rw [List.filterMap_cons, List.filter_cons]
    by_cases e : z = "then"
    · rw [if_pos e, decide_eq_false (fun h => h e), if_neg Bool.false_ne_true]
      exact ih
    · rw [if_neg e, decide_eq_true e, if_pos rfl, List.map_cons, List.map_cons]
      exact congrArg _ ih
theorem al_sum {n : Nat} : ∀ {zs : List Str}, (∀ z ∈ zs, Al n z) → (zs.map (·.length)).sum ≤ zs.length * n
  | [], _ => Nat.zero_le _
  | z :: r, h => by
    rw [List.map_cons, List.sum_cons, List.length_cons, Nat.succ_mul]
    have h1 := (h z (List.mem_cons_self ..)).2
    have h2 := al_sum fun x hx => h x (List.mem_cons_of_mem _ hx)
    omega
end Rw

namespace Rw
open PySem PySem.Spec PyProof.Rows L2 Ub Ur Ug Ue Up Uo Ve Va Vk
/-! ### what the law draws: parameters -/
/-- drawn parameters: words and trees -/
structure PsOk (l : List (Str × Tr)) : Prop where
  len : l.length ≤ 3
  pl : (l.map fun m => m.2.plains).sum ≤ 3
  ok : ∀ m ∈ l, isWord m.1 = true ∧ good m.2
  nd : (l.map (·.1)).Nodup
def txts (l : List (Str × Tr)) : Prs := l.map fun m => (m.1, m.2.text)
def sp_lpars : Sp := fun vs H Q _ => ∃ (st g l Lt : Addr) (po : List (V × Tr)), vs = [.ref st, .ref Lt] ∧ H Lt = some (.lst (po.map (·.1))) ∧ (∀ m ∈ po, TrAt H m.2 m.1 ∧ good m.2) ∧ po.length ≤ 60 ∧ StAt H st g l ∧ Lt ≠ st ∧ Lt ≠ g ∧ Lt ≠ l ∧
  ∀ D qs (r : List (Str × Tr)) H', H D = none → H' D = some (.lst qs) → FsAt H' (.ofFields r) qs → PsOk r → (∀ m ∈ r, m.2 = .nil ∨ m.2 ∈ po.map (·.2)) → StAt H' st g l → Kp st g l H H' → Q (.ref D) H'
theorem ints_sum : ∀ r : List (Str × Tr), (r.map fun m => ((m.2.plains : Nat) : Int)).sum = (((r.map fun m => m.2.plains).sum : Nat) : Int)
  | [] => rfl
  | m :: r => by
    rw [List.map_cons, List.map_cons, List.sum_cons, List.sum_cons, ints_sum r]
    omega
theorem parP_txts : ∀ {r : List (Str × Tr)} {ws : List Str} {ns : List Nat}, (∀ m ∈ r, isWord m.1 = true ∧ good m.2) → (r.map (·.1)).Nodup → (∀ m ∈ r, m.1 ∉ ws) → ns.sum + (r.map fun m => m.2.plains).sum ≤ 3 → parP ((txts r).map Up.pairD) ws ns = true
  | [], ws, ns, _, _, _, h => by
    show decide (ns.sum ≤ 3) = true
    exact decide_eq_true (by simpa using h)
  | m :: r, ws, ns, h1, h2, h3, h4 => by
    rw [List.map_cons, List.nodup_cons] at h2
    rw [List.map_cons, List.sum_cons] at h4
    obtain ⟨hw, hg⟩ := h1 m (List.mem_cons_self ..)
    have e : pair1 ws (Up.pairD (m.1, m.2.text)) = some (m.1, m.2) := pair1_ok (shapeOf_in hg) hw (h3 m (List.mem_cons_self ..))
    show parP (Up.pairD (m.1, m.2.text) :: (txts r).map Up.pairD) ws ns = true
    rw [parP_some e]
    refine parP_txts (fun x hx => h1 x (List.mem_cons_of_mem _ hx)) h2.2 (fun x hx hm => ?_) ?_
    · rcases List.mem_append.mp hm with hm | hm
      · exact h3 x (List.mem_cons_of_mem _ hx) hm
      · have : x.1 = m.1 := by simpa using hm
        exact h2.1 (by rw [← this]; exact List.mem_map.mpr ⟨x, hx, rfl⟩)
    · rw [List.sum_append]
      simp only [List.sum_cons, List.sum_nil]
      omega
theorem PsOk.areP {r : List (Str × Tr)} (h : PsOk r) : areP (parsD (txts r)) = true := by
  show (decide (((txts r).map Up.pairD).length ≤ 3) && parP ((txts r).map Up.pairD) [] []) = true
  have e : ((txts r).map Up.pairD).length = r.length := by unfold txts; rw [List.length_map, List.length_map]
  rw [e, decide_eq_true h.len, parP_txts h.ok h.nd (fun m _ => by simp) (by simpa using h.pl)]
  rfl
/-! ### drawn rows -/
def WayOk (t : Tr) (r : List (Str × Tr)) (u : Tr) (q : Str × Str) : Prop := (q.1 = "given" ∧ (q.2, u) ∈ r) ∨ ((q.1 = "present" ∨ q.1 = "old" ∨ (q.1 = "copy" ∧ u.isNil = false)) ∧ (q.2, u) ∈ fp t)
def RowOk (t : Tr) (r : List (Str × Tr)) (q : Str × Str × Str × Str) : Prop := q.1 ∈ marks ∧ ∃ u, (q.2.1, u) ∈ fp t ∧ WayOk t r u (q.2.2.1, q.2.2.2)
abbrev rowH (q : Str × Str × Str × Str) : HO := .tup [.str q.1, .str q.2.1, .str q.2.2.1, .str q.2.2.2]
def WayAt (H : Hp) (t : Tr) (r : List (Str × Tr)) (u : Tr) (v : V) : Prop := ∃ p q, v = .ref p ∧ H p = some (.tup [.str q.1, .str q.2]) ∧ WayOk t r u q
theorem WayAt.tups {H H' : Hp} {t u : Tr} {r : List (Str × Tr)} {v : V} (k : ∀ c xs, H c = some (.tup xs) → H' c = some (.tup xs)) (h : WayAt H t r u v) : WayAt H' t r u v := by
  obtain ⟨p, q, e, h1, h2⟩ := h
  exact ⟨p, q, e, k _ _ h1, h2⟩
def eqT (a b : Tr) : Bool := PyData.eqv (trD a) (trD b)
theorem eqT_iff (a b : Tr) : eqT a b = true ↔ a = b := trD_eq a b
theorem eqT_self (a : Tr) : eqT a a = true := (eqT_iff a a).mpr rfl
theorem tree_eq {K : PySem.W.Frag} {H : Hp} {a b : Tr} {x y : V} {Q : VK} (ga : good a) (gb : good b) (ha : TrAt H a x) (hb : TrAt H b y) (q : Q (.bl (eqT a b)) H) : rEqD K x y H Q :=
  ⟨trD a, trD b, tr_dp ha, tr_dp hb, trD_shaped ga, trD_shaped gb, q⟩
theorem tree_ne {K : PySem.W.Frag} {H : Hp} {a b : Tr} {x y : V} {Q : VK} (ga : good a) (gb : good b) (ha : TrAt H a x) (hb : TrAt H b y) (q : Q (.bl (!eqT a b)) H) : rNeD K x y H Q :=
  ⟨trD a, trD b, tr_dp ha, tr_dp hb, trD_shaped ga, trD_shaped gb, q⟩
/-- an if, its test told -/
theorem ifR {tt : TT} {a b : TS} {D : Ends} {σ : L2.St} {H : Hp} (C C' : Prop) (ht : ∀ Q : Bool → Hp → Prop, (∀ H', Same H H' → C → Q true H') → (∀ H', Same H H' → C' → Q false H') → tt σ H Q) (ha : ∀ H', Same H H' → C → a D σ H') (hb : ∀ H', Same H H' → C' → b D σ H') : tIfS tt a b D σ H :=
  ht _ (fun H' s c => iteT (ha H' s c)) (fun H' s c => iteF (hb H' s c))
theorem fs_uncons {H : Hp} {m : Str × Tr} {l : List (Str × Tr)} {us : List V} (h : FsAt H (.ofFields (m :: l)) us) : ∃ v vs, us = v :: vs ∧ FsAt H (.ofFields l) vs := by
  obtain ⟨w, t⟩ := m
  obtain ⟨p, q, qs, e, _, _, h5⟩ := h
  exact ⟨_, qs, e, h5⟩
theorem fs_mem {H : Hp} {l : List (Str × Tr)} {us : List V} (h : FsAt H (.ofFields l) us) {v : V} (hv : v ∈ us) : ∃ m ∈ l, ∃ p q, v = .ref p ∧ H p = some (.tup [.str m.1, q]) ∧ TrAt H m.2 q := by
  obtain ⟨i, hi⟩ := List.mem_iff_getElem?.mp hv
  have hlt : i < l.length := by
    have := (List.getElem?_eq_some_iff.mp hi).1
    rw [← lnF h]
    exact this
  obtain ⟨p, q, g1, g2, g3⟩ := h.get (m := l[i]) (i := i) (by rw [Tr.fields_of]; exact List.getElem?_eq_getElem hlt)
  rw [hi] at g1
  cases g1
  exact ⟨l[i], List.getElem_mem hlt, p, q, rfl, g2, g3⟩
def sp_lrow : Sp := fun vs H Q _ => ∃ (st g l Pt Wt : Addr) (t : Tr) (us qs : List V) (r : List (Str × Tr)), vs = [.ref st, .ref Pt, .ref Wt] ∧ H Pt = some (.lst us) ∧ FsAt H (.ofFields (paths t)) us ∧ good t ∧ t.isNil = false ∧ H Wt = some (.lst qs) ∧ FsAt H (.ofFields r) qs ∧ PsOk r ∧ StAt H st g l ∧ (Pt ≠ st ∧ Pt ≠ g ∧ Pt ≠ l) ∧ (Wt ≠ st ∧ Wt ≠ g ∧ Wt ≠ l) ∧
  ∀ p q H', H' p = some (rowH q) → RowOk t r q → StAt H' st g l → Kp st g l H H' → Q (.ref p) H'
/-- a row drawn, or "then" -/
inductive DRow (t : Tr) (r : List (Str × Tr)) (H : Hp) : V → Str → Prop
  | then_ : DRow t r H (.str "then") "then"
  | row {p : Addr} {q : Str × Str × Str × Str} : H p = some (rowH q) → RowOk t r q → DRow t r H (.ref p) (q.1 ++ " " ++ q.2.1 ++ " = " ++ (if q.2.2.1 = "old" ∨ q.2.2.1 = "copy" then q.2.2.1 ++ " " else "") ++ q.2.2.2)
def sp_rtext : Sp := fun vs H Q _ => ∃ t r v z, vs = [v] ∧ DRow t r H v z ∧ good t ∧ PsOk r ∧ ∀ H', Same H H' → Q (.str z) H'
theorem DRow.tups {t : Tr} {r : List (Str × Tr)} {H H' : Hp} {v : V} {z : Str} (k : ∀ c xs, H c = some (.tup xs) → H' c = some (.tup xs)) (h : DRow t r H v z) : DRow t r H' v z := by
  cases h with
  | then_ => exact .then_
  | row e o => exact .row (k _ _ e) o
theorem fp_al {t : Tr} (gd : good t) {p : Str} {u : Tr} (h : (p, u) ∈ fp t) : Al 28 p := pks_al gd (List.mem_cons_of_mem _ h)
theorem row_al {t : Tr} {r : List (Str × Tr)} {q : Str × Str × Str × Str} (gd : good t) (ok : PsOk r) (h : RowOk t r q) : Al 5 q.1 ∧ Al 28 q.2.1 ∧ Al 7 q.2.2.1 ∧ Al 28 q.2.2.2 := by
  obtain ⟨h1, u, h2, h3⟩ := h
  refine ⟨marks_al _ h1, fp_al gd h2, ?_, ?_⟩
  · rcases h3 with ⟨e, _⟩ | ⟨e | e | ⟨e, _⟩, _⟩ <;> (have e : q.2.2.1 = _ := e; rw [e]; exact ⟨asc_of (by decide +kernel), by decide +kernel⟩)
  · rcases h3 with ⟨_, hm⟩ | ⟨_, hm⟩
    · have := (ok.ok _ hm).1
      exact ⟨word_asc this, Nat.le_trans (isWord_len this).2 (by omega)⟩
    · exact fp_al gd hm
theorem rowD_sh {q : Str × Str × Str × Str} (h : Asc q.1 ∧ Asc q.2.1 ∧ Asc q.2.2.1 ∧ Asc q.2.2.2) : SeqAt.shaped (.tuple [.str q.1, .str q.2.1, .str q.2.2.1, .str q.2.2.2]) = true := by
  have := strsT_sh (zs := [q.1, q.2.1, q.2.2.1, q.2.2.2]) (fun z hz => by
    simp only [List.mem_cons, List.not_mem_nil, or_false] at hz
    rcases hz with rfl | rfl | rfl | rfl
    · exact h.1
    · exact h.2.1
    · exact h.2.2.1
    · exact h.2.2.2)
  exact this
/-- rows beside "then" -/
theorem drow_eq {K : PySem.W.Frag} {t : Tr} {r : List (Str × Tr)} {H : Hp} {v : V} {z : Str} {Q : VK} (gd : good t) (ok : PsOk r) (h : DRow t r H v z) (q : Q (.bl (decide (v = .str "then"))) H) : rEqD K v (.str "then") H Q := by
  cases h with
  | then_ => exact ⟨.str "then", .str "then", .str _, .str _, by decide +kernel, by decide +kernel, by rw [show PyData.eqv (.str "then") (.str "then") = true by decide +kernel]; rw [decide_eq_true rfl] at q; exact q⟩
  | row e o =>
    obtain ⟨a1, a2, a3, a4⟩ := row_al gd ok o
    refine ⟨_, .str "then", .tup (.inl (.inl e)) (.cons (.str _) (.cons (.str _) (.cons (.str _) (.cons (.str _) .nil)))), .str _, rowD_sh ⟨a1.1, a2.1, a3.1, a4.1⟩, by decide +kernel, ?_⟩
    rw [decide_eq_false (fun z => nomatch z)] at q
    exact q
theorem drow_ne {K : PySem.W.Frag} {t : Tr} {r : List (Str × Tr)} {H : Hp} {v : V} {z : Str} {Q : VK} (gd : good t) (ok : PsOk r) (h : DRow t r H v z) (q : Q (.bl (!decide (v = .str "then"))) H) : rNeD K v (.str "then") H Q := by
  cases h with
  | then_ => exact ⟨.str "then", .str "then", .str _, .str _, by decide +kernel, by decide +kernel, by rw [show PyData.eqv (.str "then") (.str "then") = true by decide +kernel]; rw [decide_eq_true rfl] at q; exact q⟩
  | row e o =>
    obtain ⟨a1, a2, a3, a4⟩ := row_al gd ok o
    refine ⟨_, .str "then", .tup (.inl (.inl e)) (.cons (.str _) (.cons (.str _) (.cons (.str _) (.cons (.str _) .nil)))), .str _, rowD_sh ⟨a1.1, a2.1, a3.1, a4.1⟩, by decide +kernel, ?_⟩
    rw [decide_eq_false (fun z => nomatch z)] at q
    exact q
theorem eq_sign {a b : Str} : a ++ " = " ++ b ≠ "then" := fun e => by
  have h : 61 ∈ cs (a ++ " = " ++ b) := by
    rw [cs_app, cs_app]
    exact List.mem_append_left _ (List.mem_append_right _ (by decide +kernel))
  rw [e] at h
  exact absurd h (by decide +kernel)
theorem DRow.isThen {t : Tr} {r : List (Str × Tr)} {H : Hp} {v : V} {z : Str} (h : DRow t r H v z) : (v = .str "then" ↔ z = "then") := by
  cases h with
  | then_ => exact ⟨fun _ => rfl, fun _ => rfl⟩
  | row e o =>
    rename_i p q
    refine ⟨(fun h => nomatch h), fun h => ?_⟩
    have : q.1 ++ " " ++ q.2.1 ++ " = " ++ ((if q.2.2.1 = "old" ∨ q.2.2.1 = "copy" then q.2.2.1 ++ " " else "") ++ q.2.2.2) = "then" := by
      rw [← h]
      exact str_inj (by simp only [cs_app, List.append_assoc])
    exact absurd this eq_sign
def sp_lrows : Sp := fun vs H Q _ => ∃ (st g l Pt Wt : Addr) (t : Tr) (us qs : List V) (r : List (Str × Tr)) (most : Nat), vs = [.ref st, .ref Pt, .ref Wt, .int most] ∧ most ≤ 8 ∧ H Pt = some (.lst us) ∧ FsAt H (.ofFields (paths t)) us ∧ good t ∧ t.isNil = false ∧ H Wt = some (.lst qs) ∧ FsAt H (.ofFields r) qs ∧ PsOk r ∧ StAt H st g l ∧ (Pt ≠ st ∧ Pt ≠ g ∧ Pt ≠ l) ∧ (Wt ≠ st ∧ Wt ≠ g ∧ Wt ≠ l) ∧
  ∀ D (po : List (V × Str)) H', H D = none → H' D = some (.lst (po.map (·.1))) → (∀ m ∈ po, DRow t r H' m.1 m.2) → thensM (po.map (·.2)) ≤ 3 → po.length ≤ thensM (po.map (·.2)) + most → StAt H' st g l → Kp st g l H H' → Q (.ref D) H'
theorem ifG {tt : TT} {a b : TS} {D : Ends} {σ : L2.St} {H : Hp} (C C' : Hp → Prop) (ht : ∀ Q : Bool → Hp → Prop, (∀ H', C H' → Q true H') → (∀ H', C' H' → Q false H') → tt σ H Q) (ha : ∀ H', C H' → a D σ H') (hb : ∀ H', C' H' → b D σ H') : tIfS tt a b D σ H :=
  ht _ (fun H' c => iteT (ha H' c)) (fun H' c => iteF (hb H' c))
theorem writ_len : ∀ po : List (V × Str), (po.filterMap fun m : V × Str => if m.2 = ("then" : Str) then none else some m.1).length + thensM (po.map (·.2)) = po.length
  | [] => rfl
  | m :: po => by
    have ih := writ_len po
    unfold thensM at ih ⊢
    rw [List.filterMap_cons, List.map_cons, List.filter_cons]
    by_cases e : m.2 = "then"
    · rw [if_pos e, decide_eq_true e, if_pos rfl, List.length_cons, List.length_cons]
      show (po.filterMap fun m : V × Str => if m.2 = ("then" : Str) then none else some m.1).length + _ = _
      omega
    · rw [if_neg e, decide_eq_false e, if_neg Bool.false_ne_true, show (m :: po).length = po.length + 1 from rfl]
      show (m.1 :: (po.filterMap fun m : V × Str => if m.2 = ("then" : Str) then none else some m.1)).length + _ = _
      rw [List.length_cons]
      omega
end Rw

namespace Rw
open PySem PySem.Spec PyProof.Rows L2 Ub Ur Ug Ue Up Uo Ve Va Vk
/-! ### a drawn row's text is read as its parts -/
def PCh (c : Nat) : Prop := c = 46 ∨ isLet c = true
theorem down_ch {w p : Str} (hw : isWord w = true) (hp : ∀ c ∈ cs p, PCh c) : ∀ c ∈ cs (down w p), PCh c := fun c hc => by
  rw [cs_down] at hc
  rcases List.mem_cons.mp hc with rfl | hc
  · exact .inl rfl
  · rcases List.mem_append.mp hc with hc | hc
    · exact .inr (isWord_low hw c hc)
    · split at hc
      · cases hc
      · exact hp c hc
theorem path_ch : ∀ (n : Nat) {t : Tr}, t.depth ≤ n → good t → ∀ m ∈ paths t, ∀ c ∈ cs m.1, PCh c := by
  have base : ∀ c ∈ cs ("." : Str), PCh c := fun c hc => by
    rw [cs_dot] at hc
    exact .inl (by simpa using hc)
  intro n
  induction n with
  | zero =>
    intro t hd hg m hm
    rcases List.mem_cons.mp hm with e | hm
    · rw [e]; exact base
    · obtain ⟨f, hf, _⟩ := fp_mem m hm
      have := Tr.depth_lt hf
      omega
  | succ n ih =>
    intro t hd hg m hm
    rcases List.mem_cons.mp hm with e | hm
    · rw [e]; exact base
    · obtain ⟨f, hf, m', hm', rfl⟩ := fp_mem m hm
      have hl := Tr.depth_lt hf
      obtain ⟨gf, gw⟩ := (good_fields hg).1 f hf
      exact down_ch gw (ih (by omega) gf m' hm')
theorem fp_ch {t : Tr} (gd : good t) {p : Str} {u : Tr} (h : (p, u) ∈ fp t) : ∀ c ∈ cs p, PCh c := path_ch 3 (good_has gd).1 gd _ (List.mem_cons_of_mem _ h)
theorem fp_ne {t : Tr} (gd : good t) {p : Str} {u : Tr} (h : (p, u) ∈ fp t) : p ≠ "." := by
  obtain ⟨f, hf, m', hm', e⟩ := fp_mem _ h
  have : p = down f.1 m'.1 := congrArg Prod.fst e
  rw [this]
  exact down_ne ((good_fields gd).1 f hf).2
theorem fp_at {t : Tr} (gd : good t) {p : Str} {u : Tr} (h : (p, u) ∈ fp t) : atM t p = some u := by
  unfold atM
  rw [if_neg (fp_ne gd h)]
  exact lookup_mem (paths_nodup (good_W gd)) (List.mem_cons_of_mem _ h)
theorem no_code {p : Str} (h : ∀ c ∈ cs p, PCh c) {k : Nat} (h1 : k ≠ 46) (h2 : isLet k = false) : k ∉ cs p := fun hk => by
  rcases h k hk with e | e
  · exact h1 e
  · rw [h2] at e; cases e
theorem eq_part {a b : Str} (h : 61 ∉ cs a) : Txt.partition (a ++ " = " ++ b) " = " = (a, (" = " : Str), b) := by
  have e3 : TL.tl (" = " : Str) = [32, 61, 32] := by decide +kernel
  rw [TL.partition_par _ _ (by rw [e3]; simp), TL.tl_append, TL.tl_append, List.append_assoc, e3, TL.par_part (by simp) fun i hi => ?_]
  · show ((⟨([] ++ TL.tl a).toArray⟩ : Str), (" = " : Str), (⟨(TL.tl b).toArray⟩ : Str)) = _
    rw [List.nil_append, TL.mk_tl, TL.mk_tl]
  · cases hp : TL.pre [32, 61, 32] ((TL.tl a ++ ([32, 61, 32] ++ TL.tl b)).drop i) with
    | false => rfl
    | true =>
      have e : ((TL.tl a ++ ([32, 61, 32] ++ TL.tl b)).drop i).take 3 = [32, 61, 32] := eq_of_beq hp
      have e1 : ((TL.tl a ++ ([32, 61, 32] ++ TL.tl b)).drop i)[1]? = some 61 := by
        have := congrArg (fun l => l[1]?) e
        simpa [List.getElem?_take] using this
      rw [List.getElem?_drop] at e1
      rcases Nat.lt_or_ge (i + 1) (TL.tl a).length with hlt | hge
      · rw [List.getElem?_append_left hlt] at e1
        exact absurd (List.mem_of_getElem? e1) h
      · have : i + 1 = (TL.tl a).length := by omega
        rw [this, List.getElem?_append_right (Nat.le_refl _), Nat.sub_self] at e1
        cases e1
theorem blank_cs : TL.tl (" " : Str) = [32] := by decide +kernel
theorem part_blank {a b : Str} (h : 32 ∉ cs a) : Txt.partition (a ++ " " ++ b) " " = (a, (" " : Str), b) := TL.partition_app blank_cs h
theorem part_noblank {a : Str} (h : 32 ∉ cs a) : Txt.partition a " " = (a, Str.empty, Str.empty) := TL.partition_none blank_cs h
theorem let32 : isLet 32 = false := by decide +kernel
theorem let61 : isLet 61 = false := by decide +kernel
theorem let46 : isLet 46 = false := by decide +kernel
theorem marks_no : ∀ m ∈ marks, 32 ∉ cs m ∧ 61 ∉ cs m := fun m hm => by
  have h := List.all_eq_true.mp (show marks.all (fun m => !(cs m).contains 32 && !(cs m).contains 61) = true by decide +kernel) m hm
  simpa using h
theorem given_at {ps : Prs} {z : Str} (h : ∀ m ∈ ps, m.1 ≠ z) : givenM ps z = none := by
  induction ps with
  | nil => rfl
  | cons p ps ih =>
    show (if p.1 = z then _ else givenM ps z) = none
    rw [if_neg (h p (List.mem_cons_self ..))]
    exact ih fun m hm => h m (List.mem_cons_of_mem _ hm)
theorem given_in {r : List (Str × Tr)} (nd : (r.map (·.1)).Nodup) {m : Str × Tr} (h : m ∈ r) : givenM (txts r) m.1 = some (("given" : Str), m.1, m.2.text) := by
  induction r with
  | nil => cases h
  | cons p r ih =>
    rw [List.map_cons, List.nodup_cons] at nd
    show (if p.1 = m.1 then some (("given" : Str), p.1, p.2.text) else givenM (txts r) m.1) = _
    rcases List.mem_cons.mp h with e | h
    · rw [if_pos (by rw [e]), e]
    · rw [if_neg (fun e => nd.1 (by rw [e]; exact List.mem_map.mpr ⟨m, h, rfl⟩))]
      exact ih nd.2 h
abbrev rowT (q : Str × Str × Str × Str) : Str := q.1 ++ " " ++ q.2.1 ++ " = " ++ (if q.2.2.1 = "old" ∨ q.2.2.1 = "copy" then q.2.2.1 ++ " " else "") ++ q.2.2.2
theorem term_drawn {t : Tr} {r : List (Str × Tr)} {u : Tr} {s w : Str} (gd : good t) (ok : PsOk r) (h : WayOk t r u (s, w)) : termM t (txts r) ((if s = "old" ∨ s = "copy" then s ++ " " else "") ++ w) = some (s, w, u.text) := by
  have words : ∀ m ∈ txts r, ∀ c ∈ cs m.1, isLet c = true := fun m hm => by
    obtain ⟨m', hm', rfl⟩ := List.mem_map.mp hm
    exact isWord_low (ok.ok m' hm').1
  have emp : ∀ x : Str, ("" : Str) ++ x = x := fun x => str_inj (by rw [cs_app]; rfl)
  rcases h with ⟨e, hm⟩ | ⟨hs, hm⟩
  · have e : s = "given" := e
    subst e
    rw [if_neg (by decide +kernel), emp]
    unfold termM
    rw [given_in ok.nd hm]
  · have hm : (w, u) ∈ fp t := hm
    have chw := fp_ch gd hm
    have dw : ∃ x, cs w = 46 :: x := by
      have := fp_dot t _ hm
      exact this
    have hat := fp_at gd hm
    have nb := no_code chw (k := 32) (by decide) let32
    have hs : s = "present" ∨ s = "old" ∨ (s = "copy" ∧ u.isNil = false) := hs
    have hp : pathM t s w = some (s, w, u.text) := by
      unfold pathM
      rw [hat]
      dsimp only
      rw [if_neg]
      rintro ⟨e1, e2⟩
      rcases hs with e | e | ⟨_, e⟩
      · rw [e1] at e; exact absurd e (by decide +kernel)
      · rw [e1] at e; exact absurd e (by decide +kernel)
      · rw [e] at e2; cases e2
    have gn : ∀ z : Str, (∃ c ∈ cs z, isLet c = false) → givenM (txts r) z = none := fun z ⟨c, hc, hl⟩ => given_at fun m hm' e => by
      have := words m hm' c (by rw [e]; exact hc)
      rw [hl] at this
      cases this
    by_cases ho : s = "old" ∨ s = "copy"
    · rw [if_pos ho]
      unfold termM
      rw [gn _ ⟨32, by rw [cs_app, cs_app]; exact List.mem_append_left _ (List.mem_append_right _ (by decide +kernel)), let32⟩]
      have ns : 32 ∉ cs s := by rcases ho with e | e <;> rw [e] <;> decide +kernel
      have es : srcM (s ++ " " ++ w) = some (s, w) := by
        unfold srcM
        rw [part_blank ns]
        dsimp only
        rw [if_neg (by decide +kernel), if_pos ho]
      rw [es]
      exact hp
    · rw [if_neg ho, emp]
      unfold termM
      obtain ⟨x, ex⟩ := dw
      rw [gn _ ⟨46, by rw [ex]; exact List.mem_cons_self .., let46⟩]
      have es : srcM w = some (("present" : Str), w) := by
        unfold srcM
        rw [part_noblank nb]
        exact if_pos rfl
      rw [es]
      have e : s = "present" := by
        rcases hs with e | e | ⟨e, _⟩
        · exact e
        · exact absurd (.inl e) ho
        · exact absurd (.inr e) ho
      rw [e] at hp
      rw [e]
      exact hp
theorem row_drawn {t : Tr} {r : List (Str × Tr)} {q : Str × Str × Str × Str} (gd : good t) (ok : PsOk r) (h : RowOk t r q) : rowM t (txts r) (rowT q) = some q := by
  obtain ⟨mk, pa, s, w⟩ := q
  obtain ⟨hm, u, hp, hw⟩ := h
  have hm : mk ∈ marks := hm
  have hp : (pa, u) ∈ fp t := hp
  have hw : WayOk t r u (s, w) := hw
  obtain ⟨n32, n61⟩ := marks_no mk hm
  have p61 := no_code (fp_ch gd hp) (k := 61) (by decide) let61
  have e1 : Txt.partition (rowT (mk, pa, s, w)) " = " = (mk ++ " " ++ pa, (" = " : Str), (if s = "old" ∨ s = "copy" then s ++ " " else "") ++ w) := by
    have : rowT (mk, pa, s, w) = (mk ++ " " ++ pa) ++ " = " ++ ((if s = "old" ∨ s = "copy" then s ++ " " else "") ++ w) := str_inj (by simp only [rowT, cs_app, List.append_assoc])
    rw [this]
    refine eq_part fun hc => ?_
    rw [cs_app, cs_app] at hc
    rcases List.mem_append.mp hc with hc | hc
    · rcases List.mem_append.mp hc with hc | hc
      · exact n61 hc
      · exact absurd hc (by decide +kernel)
    · exact p61 hc
  unfold rowM headM
  rw [e1]
  dsimp only
  rw [if_neg (by decide +kernel), part_blank n32]
  dsimp only
  rw [if_neg (fun z => z hm), fp_at gd hp]
  dsimp only
  rw [term_drawn gd ok hw]
  exact if_pos rfl
theorem DRow.reads {t : Tr} {r : List (Str × Tr)} {H : Hp} {v : V} {z : Str} (gd : good t) (ok : PsOk r) (h : DRow t r H v z) : z = "then" ∨ (rowM t (txts r) z).isSome = true := by
  cases h with
  | then_ => exact .inl rfl
  | row e o => exact .inr (by rw [row_drawn gd ok o]; rfl)
theorem thens_app (a b : List Str) : thensM (a ++ b) = thensM a + thensM b := by
  unfold thensM
  rw [List.filter_append, List.length_append]
/-- rows that are few and read fit one behind the other -/
theorem rows_fit {t : Tr} {ps : Prs} : ∀ {os rs : List Str} {i : Nat}, (∀ z ∈ os, z = "then" ∨ (rowM t ps z).isSome = true) → thensM (rs ++ os) ≤ 3 → (rs ++ os).length ≤ thensM (rs ++ os) + 8 → badAt t ps rs (os.map some) i = none
  | [], _, _, _, _, _ => rfl
  | o :: os, rs, i, h, h1, h2 => by
    show (if fitsV t ps rs (some o) = true then badAt t ps (rs ++ [o]) (os.map some) (i + 1) else some i) = none
    have e : rs ++ o :: os = (rs ++ [o]) ++ os := by simp
    have hf : fitsV t ps rs (some o) = true := by
      show fitsM t ps rs o = true
      unfold fitsM
      rw [e, thens_app, thens_snoc] at h1
      rw [e, thens_app, thens_snoc] at h2
      by_cases ho : o = "then"
      · rw [if_pos ho] at h1 ⊢
        exact decide_eq_true (by omega)
      · rw [if_neg ho] at h2 ⊢
        have hr : (rowM t ps o).isSome = true := by
          rcases h o (List.mem_cons_self ..) with c | c
          · exact absurd c ho
          · exact c
        rw [hr, Bool.and_true]
        rw [List.length_append, List.length_append] at h2
        have := thens_le rs
        have := thens_le os
        simp only [List.length_cons, List.length_nil] at h2
        exact decide_eq_true (by omega)
    rw [if_pos hf]
    refine rows_fit (fun z hz => h z (List.mem_cons_of_mem _ hz)) ?_ ?_
    · rw [← e]; exact h1
    · rw [← e]; exact h2
end Rw

namespace Rw
open PySem PySem.Spec PyProof.Rows L2 Ub Ur Ug Ue Up Uo Ve Va Vk
/-! ### sections, row by row -/
def secStep (l : List (List Str)) (z : Str) : List (List Str) := if z = "then" then l ++ [[]] else l.dropLast ++ [l.getLastD [] ++ [z]]
theorem thAt_app (zs ws : List Str) : thAt (zs ++ ws) zs.length = thAt zs zs.length := by
  unfold thAt
  refine List.filter_congr fun i hi => ?_
  rw [List.getElem?_append_left (List.mem_range.mp hi)]
theorem zip_snoc {α β : Type} : ∀ {a : List α} {b : List β} {x : α} {y : β}, a.length = b.length → (a ++ [x]).zip (b ++ [y]) = a.zip b ++ [(x, y)] := fun h => List.zip_append h
theorem secs_snoc (zs : List Str) (z : Str) : secsM (zs ++ [z]) = secStep (secsM zs) z := by
  have hT : thAt (zs ++ [z]) (zs ++ [z]).length = thAt zs zs.length ++ if z = "then" then [zs.length] else [] := by
    have e : (zs ++ [z]).length = zs.length + 1 := by rw [List.length_append]; rfl
    rw [e, thAt_succ, thAt_app]
    have e2 : (zs ++ [z])[zs.length]? = some z := by rw [List.getElem?_append_right (Nat.le_refl _), Nat.sub_self]; rfl
    rw [e2]
    by_cases c : z = "then"
    · rw [if_pos c, if_pos (by rw [c])]
    · rw [if_neg c, if_neg (fun h => c (Option.some.inj h))]
  have hlt : ∀ k ∈ thAt zs zs.length, k < zs.length := fun k hk => thAt_lt hk
  have e1 : (zs ++ [z]).length = zs.length + 1 := by rw [List.length_append]; rfl
  generalize hTT : thAt zs zs.length = T at hT hlt
  have slice : ∀ a b : Nat, b ≤ zs.length → ((zs ++ [z]).drop a).take (b - a) = (zs.drop a).take (b - a) := fun a b hb => by
    rcases Nat.le_total a zs.length with h | h
    · rw [List.drop_append_of_le_length h, List.take_append_of_le_length (by rw [List.length_drop]; omega)]
    · have : b - a = 0 := by omega
      rw [this, List.take_zero, List.take_zero]
  -- the starts but the last, with the ends but the last
  obtain ⟨S0, sl, hS⟩ : ∃ S0 sl, (0 :: T.map (· + 1) : List Nat) = S0 ++ [sl] := ⟨(0 :: T.map (· + 1)).dropLast, (0 :: T.map (· + 1)).getLast (by simp), (List.dropLast_concat_getLast _).symm⟩
  have lS : S0.length = T.length := by
    have := congrArg List.length hS
    rw [List.length_cons, List.length_map, List.length_append, List.length_cons, List.length_nil] at this
    omega
  have bnd : ∀ m ∈ S0.zip T, m.2 ≤ zs.length := fun m hm => Nat.le_of_lt (hlt _ (List.of_mem_zip hm).2)
  have slb : sl ≤ zs.length := by
    have : sl ∈ (0 :: T.map (· + 1) : List Nat) := by rw [hS]; simp
    rcases List.mem_cons.mp this with h | h
    · omega
    · obtain ⟨k, hk, rfl⟩ := List.mem_map.mp h
      exact hlt k hk
  have old : secsM zs = ((S0.zip T).map fun m => (zs.drop m.1).take (m.2 - m.1)) ++ [zs.drop sl] := by
    unfold secsM startsM endsM
    rw [hTT, hS, zip_snoc lS, List.map_append]
    congr 1
    show [((zs.drop sl).take (zs.length - sl))] = _
    rw [List.take_of_length_le (by rw [List.length_drop]; omega)]
  have same : ((S0.zip T).map fun m => ((zs ++ [z]).drop m.1).take (m.2 - m.1)) = (S0.zip T).map fun m => (zs.drop m.1).take (m.2 - m.1) := List.map_congr_left fun m hm => slice m.1 m.2 (bnd m hm)
  have hdl : ∀ x : List Str, (((S0.zip T).map fun m => (zs.drop m.1).take (m.2 - m.1)) ++ [x]).dropLast = (S0.zip T).map fun m => (zs.drop m.1).take (m.2 - m.1) := fun x => List.dropLast_concat
  unfold secStep
  by_cases c : z = "then"
  · rw [if_pos c] at hT ⊢
    rw [old]
    unfold secsM startsM endsM
    rw [hT, List.map_append, ← List.cons_append, hS]
    show List.map _ (((S0 ++ [sl]) ++ [zs.length + 1]).zip ((T ++ [zs.length]) ++ [(zs ++ [z]).length])) = _
    rw [zip_snoc (by rw [List.length_append, List.length_append, lS]; rfl), zip_snoc lS, List.map_append, List.map_append, same]
    congr 1
    · congr 1
      show [((zs ++ [z]).drop sl).take (zs.length - sl)] = _
      rw [slice sl zs.length (Nat.le_refl _), List.take_of_length_le (by rw [List.length_drop]; omega)]
    · show [((zs ++ [z]).drop (zs.length + 1)).take ((zs ++ [z]).length - (zs.length + 1))] = _
      rw [e1, Nat.sub_self, List.take_zero]
  · rw [if_neg c] at hT ⊢
    rw [List.append_nil] at hT
    rw [old, hdl]
    unfold secsM startsM endsM
    rw [hT, hS, zip_snoc lS, List.map_append, same]
    congr 1
    have eL : (((S0.zip T).map fun m => (zs.drop m.1).take (m.2 - m.1)) ++ [zs.drop sl]).getLastD [] = zs.drop sl := by
      rw [List.getLastD_eq_getLast?, List.getLast?_append]
      rfl
    rw [eL]
    show [((zs ++ [z]).drop sl).take ((zs ++ [z]).length - sl)] = _
    rw [List.take_of_length_le (by rw [List.length_drop]; omega), List.drop_append_of_le_length slb]
theorem secs_nil : secsM [] = [[]] := rfl
def sp_lsecs : Sp := fun vs H Q _ => ∃ a zs, vs = [.ref a] ∧ H a = some (.lst (zs.map V.str)) ∧ zs.length ≤ 100 ∧ ∀ v H', Same H H' → DtV [] H' v (secsD zs) → Q v H'
theorem secs_ne (zs : List Str) : secsM zs ≠ [] := by
  unfold secsM startsM endsM
  cases thAt zs zs.length <;> simp
theorem secs_last (zs : List Str) : ∃ L0 l, secsM zs = L0 ++ [l] := ⟨_, _, (List.dropLast_concat_getLast (secs_ne zs)).symm⟩
theorem step_last {L0 : List (List Str)} {l : List Str} {z : Str} (h : z ≠ "then") : secStep (L0 ++ [l]) z = L0 ++ [l ++ [z]] := by
  unfold secStep
  rw [if_neg h, List.dropLast_concat, List.getLastD_eq_getLast?, List.getLast?_append]
  rfl
theorem step_then (L : List (List Str)) : secStep L "then" = L ++ [[]] := if_pos rfl
end Rw

namespace Lx
open PySem PySem.Spec PyProof.Rows L2 Ub Ur Ug Ue Up Uo Ve Va Vk Rw
section
variable {P : Program} {w : World} {K : PySem.W.Frag} {mg : Str → Option Value} {base : Heap}
theorem sc_law_sections : FnScope ["_law_rows_here", "_law_told", "_law_row_here", "_law_section"] ["_law_rows_here"] (defScope s_law_sections) := ⟨rfl, rfl, rfl, by decide +kernel, rfl, by decide +kernel, by decide +kernel⟩
theorem ok_law_sections {f : Addr} {fd : FuncData} (F : FunD K "_law_sections" "_law_sections" (defArgs s_law_sections) (defBody s_law_sections) (defScope s_law_sections) [] [] f fd) (T : Tx K mg) :
    FnOk P w K mg base CX0 1 f fd ["_law_rows_here"] sp_lsecs := by
  refine F.ok sc_law_sections (fun vs H Q E h => by obtain ⟨_, _, rfl, _⟩ := h; rfl) (fun cdv A outer s H vs Q E hr h => ?_)
  obtain ⟨a, zs, rfl, ha, lz, q⟩ := h
  refine ⟨_, PSs.nox (pss_cons (ps_set (i := 1) sc_law_sections.nd rfl (by first | exact Or.inl rfl | exact Or.inr rfl) (pe_lst (pa_cons (pe_lst pa_nil) pa_nil)))
      (pss_cons (ps_for PassesOwn.never rfl (pi_listK K (pv 0)) (pg_name (i := 2) sc_law_sections.nd rfl (by first | exact Or.inl rfl | exact Or.inr rfl))
        (pss_one (ps_if (pt_cmpR op_eq (pv 2) pe_str (nomark _))
            (pss_one (ps_expr (pe_bmK K PySem.F.plainAttrs_list PySem.F.slot_list_append PySem.F.type_list_append mt_append (pv 1) (pa_cons (pe_lst pa_nil) pa_nil))))
            (pss_one (ps_expr (pe_bmK K PySem.F.plainAttrs_list PySem.F.slot_list_append PySem.F.type_list_append mt_append (pe_ix (ix_listK K) (pv 1) (pe_un un_neg pe_int) (fun _ _ => rfl)) (pa_cons (pv 2) pa_nil)))))))
      (pss_one (ps_ret (pe_callTy (call_tuple_ofK K) (by rfl) T.tuple (by decide +kernel) (pa_cons (pe_lc (own := [("_law_section", 3)]) (by rfl) sc_law_sections.nd (pi_listK K (pv 1)) (blkOk_by (N := ["_law_rows_here", "_law_told", "_law_row_here", "_law_section"]) (sc := (defScope s_law_sections)) (by decide +kernel)) (fun _ _ _ _ _ => (pg_name (i := 3) sc_law_sections.nd rfl (by first | exact Or.inl rfl | exact Or.inr rfl))) (fun _ _ _ _ _ => pts_nil) (fun _ _ _ _ _ => (pe_callTy (call_tuple_ofK K) (by rfl) T.tuple (by decide +kernel) (pa_cons (pv 3) pa_nil)))) pa_nil)))))), ?_⟩
  refine ⟨Nat.zero_le _, fun p0 np0 => ⟨(by show 1 ≤ sizeLine; decide), fun D nD => ?_⟩⟩
  dsimp only [gName]
  have s0 := (same_upd (o := .lst []) np0).trans (same_upd (o := .lst [.ref p0]) nD)
  have n0D : p0 ≠ D := fun z => by rw [z, upd_same] at nD; cases nD
  have eD : (upd (upd H p0 (.lst [])) D (.lst [.ref p0])) D = some (.lst [.ref p0]) := upd_same
  have e0 : (upd (upd H p0 (.lst [])) D (.lst [.ref p0])) p0 = some (.lst []) := by rw [upd_ne n0D]; exact upd_same
  have nDH : H D = none := (same_upd (o := .lst []) np0).free nD
  refine absH fun H1 e1 => ?_
  have e1 : H1 = upd (upd H p0 (.lst [])) D (.lst [.ref p0]) := e1
  rw [← e1] at s0 eD e0
  clear e1 nD
  have aD : a ≠ D := ne_of_none ha nDH
  refine ⟨_, rfl, a, rfl, ⟨_, .inl (.inl (s0 _ _ ha))⟩, ?_⟩
  refine for_it (walk_list (K := K) (a := a) (xs := zs.map V.str)) (fun i σ HH => ∃ (y2 y3 : Option V) (ps : List Addr), σ = [some (.ref a), some (.ref D), y2, y3] ∧ Same H HH ∧ HH D = some (.lst (ps.map V.ref)) ∧ ps.Nodup ∧ D ∉ ps ∧ (∀ p ∈ ps, H p = none) ∧ ps.length = (secsM (zs.take i)).length ∧ (∀ (k : Nat) (p : Addr) (r : List Str), ps[k]? = some p → (secsM (zs.take i))[k]? = some r → HH p = some (.lst (r.map V.str)))) ?_ (fun i σ HH _ p => ?_) (fun i v σ HH HH' hi p y => ?_) (fun σ HH p => ?_)
  · refine ⟨none, none, [p0], rfl, s0, eD, by simp, by simpa using n0D.symm, fun p hp => ?_, rfl, fun k p r h1 h2 => ?_⟩
    · have : p = p0 := by simpa using hp
      rw [this]; exact np0
    · cases k with
      | zero =>
        cases h1
        have : ([] : List Str) = r := Option.some.inj h2
        rw [← this]
        exact e0
      | succ k => simp at h1
  · obtain ⟨_, _, _, _, sH, _⟩ := p
    exact .inl (.inl (sH _ _ ha))
  · obtain ⟨y2, y3, ps, rfl, sH, eD, nd, dn, fr, lp, at_⟩ := p
    obtain ⟨rfl, hx⟩ := y
    have hiz : i < zs.length := by rw [← List.length_map (f := V.str)]; exact hi
    obtain ⟨z, hz⟩ : ∃ z, zs[i]? = some z := ⟨_, List.getElem?_eq_getElem hiz⟩
    obtain rfl : v = .str z := by
      rw [List.getElem?_map, hz] at hx
      exact (Option.some.inj hx).symm
    have et : zs.take (i + 1) = zs.take i ++ [z] := by rw [List.take_add_one, hz]; rfl
    have es : secsM (zs.take (i + 1)) = secStep (secsM (zs.take i)) z := by rw [et, secs_snoc]
    have lps : ps.length ≤ i + 1 := by
      rw [lp]
      have := secs_len (zs.take i)
      rw [List.length_take] at this
      omega
    rw [es]
    have lzi : ∀ r ∈ secsM (zs.take i), r.length ≤ 100 := fun r hr => by
      have := (secs_mem hr).1
      rw [List.length_take] at this
      omega
    dsimp only [gName]
    refine ⟨_, rfl, rfl, _, rfl, ?_⟩
    by_cases c : z = "then"
    · subst c
      rw [step_then]
      refine iteY rfl ?_
      refine ⟨_, rfl, .inl ⟨rfl, _, .inl (.inl eD)⟩, Nat.zero_le _, fun p np => ?_⟩
      have sp := same_upd (o := .lst []) np
      have eDp := sp _ _ eD
      have npH := sH.free np
      have pD : p ≠ D := fun z => by rw [z, eD] at np; cases np
      refine ⟨D, _, _, rfl, rfl, eDp, small1000 (by rw [List.length_map]; omega), ?_⟩
      have npps : p ∉ ps := fun h => by
        obtain ⟨k, hk⟩ := List.mem_iff_getElem?.mp h
        obtain ⟨r, hr⟩ : ∃ r, (secsM (zs.take i))[k]? = some r := ⟨_, List.getElem?_eq_getElem (by rw [← lp]; exact (List.getElem?_eq_some_iff.mp hk).1)⟩
        rw [at_ k p r hk hr] at np
        cases np
      refine ⟨_, _, ps ++ [p], rfl, same_mut (sH.trans sp) nDH, by rw [upd_same, List.map_append]; rfl, ?_, ?_, fun p' hp' => ?_, ?_, fun k p' r h1 h2 => ?_⟩
      · rw [List.nodup_append]
        exact ⟨nd, by simp, fun x hx y hy e => npps (by have : y = p := by simpa using hy
                                                        rw [← this, ← e]; exact hx)⟩
      · intro h
        rcases List.mem_append.mp h with h | h
        · exact dn h
        · exact pD.symm (by simpa using h)
      · rcases List.mem_append.mp hp' with h | h
        · exact fr _ h
        · have : p' = p := by simpa using h
          rw [this]; exact npH
      · rw [List.length_append, List.length_append, lp]; rfl
      · have pD' : p' ≠ D := by
          rcases List.mem_append.mp (List.mem_of_getElem? h1) with h | h
          · exact fun z => dn (z ▸ h)
          · have : p' = p := by simpa using h
            rw [this]; exact pD
        rw [upd_ne pD']
        rcases Nat.lt_or_ge k ps.length with hlt | hge
        · rw [List.getElem?_append_left hlt] at h1
          rw [List.getElem?_append_left (by omega)] at h2
          exact sp _ _ (at_ k p' r h1 h2)
        · rw [List.getElem?_append_right hge] at h1
          rw [List.getElem?_append_right (by omega)] at h2
          have hk : k - ps.length = 0 := by
            have := (List.getElem?_eq_some_iff.mp h1).1
            simpa using this
          rw [hk] at h1
          rw [← lp, hk] at h2
          cases h1
          cases h2
          exact upd_same
    · obtain ⟨L0, l, eL⟩ := secs_last (zs.take i)
      rw [eL] at lp at_ lzi ⊢
      rw [step_last c]
      refine iteN (fun e => c (V.str.inj e)) ?_
      obtain ⟨ps0, pl, rfl⟩ : ∃ ps0 pl, ps = ps0 ++ [pl] := by
        have : ps ≠ [] := fun e => by rw [e] at lp; simp at lp
        exact ⟨_, _, (List.dropLast_concat_getLast this).symm⟩
      have l0 : ps0.length = L0.length := by simpa using lp
      have epl := at_ ps0.length pl l (by rw [List.getElem?_append_right (Nat.le_refl _), Nat.sub_self]; rfl) (by rw [List.getElem?_append_right (by omega), l0, Nat.sub_self]; rfl)
      have plD : pl ≠ D := fun z => dn (by rw [← z]; simp)
      have ll := lzi l (by simp)
      refine ⟨_, rfl, _, rfl, D, _, -1, .ref pl, rfl, rfl, .inl (.inl eD), (by rw [List.map_append]; exact atI_last _ _), .inl ⟨rfl, _, .inl (.inl epl)⟩, _, rfl, ?_⟩
      refine ⟨pl, _, _, rfl, rfl, epl, small1000 (by rw [List.length_map]; omega), ?_⟩
      have nplH := fr pl (by simp)
      refine ⟨_, _, ps0 ++ [pl], rfl, same_mut sH nplH, by rw [upd_ne plD.symm]; exact eD, nd, dn, fr, by rw [List.length_append, List.length_append, l0]; rfl, fun k p' r h1 h2 => ?_⟩
      rcases Nat.lt_or_ge k ps0.length with hlt | hge
      · have h1' := h1
        rw [List.getElem?_append_left hlt] at h1
        rw [List.getElem?_append_left (by omega)] at h2
        have pn : p' ≠ pl := fun e => by
          rw [List.nodup_append] at nd
          exact nd.2.2 p' (List.mem_of_getElem? h1) pl (by simp) e
        rw [upd_ne pn]
        exact at_ k p' r h1' (by rw [List.getElem?_append_left (by omega)]; exact h2)
      · rw [List.getElem?_append_right hge] at h1
        rw [List.getElem?_append_right (by omega)] at h2
        have hk : k - ps0.length = 0 := by
          have := (List.getElem?_eq_some_iff.mp h1).1
          simpa using this
        rw [hk] at h1
        rw [← l0, hk] at h2
        cases h1
        cases h2
        rw [upd_same, List.map_append]
        rfl
  obtain ⟨y2, y3, ps, rfl, sH, eD, nd, dn, fr, lp, at_⟩ := p
  rw [List.length_map, List.take_length] at lp at_
  have lps : ps.length ≤ 101 := by
    rw [lp]
    have := secs_len zs
    omega
  refine ⟨_, rfl, D, rfl, ⟨_, .inl (.inl eD)⟩, fun D2 hD2 => ?_⟩
  refine lc_list (K := K) (a := D) (xs := ps.map V.ref) (fun j HY => Same HH HY ∧ ∃ ts : List Addr, HY D2 = some (.lst (ts.map V.ref)) ∧ ts.length = j ∧ ∀ (k : Nat) (p : Addr) (r : List Str), k < j → ts[k]? = some p → (secsM zs)[k]? = some r → HY p = some (.tup (r.map V.str))) ⟨same_upd hD2, [], upd_same, rfl, fun k p r h => absurd h (Nat.not_lt_zero _)⟩ (fun j HY hj p => .inl (.inl (p.1 _ _ eD))) (fun j x HY hx p => ?_) (fun HY p => ?_)
  · obtain ⟨sY, ts, e2, lt, ok⟩ := p
    have hj : j < ps.length := by
      have := (List.getElem?_eq_some_iff.mp hx).1
      rwa [List.length_map] at this
    obtain ⟨p, hp⟩ : ∃ p, ps[j]? = some p := ⟨_, List.getElem?_eq_getElem hj⟩
    obtain rfl : x = .ref p := by
      rw [List.getElem?_map, hp] at hx
      exact (Option.some.inj hx).symm
    obtain ⟨r, hr'⟩ : ∃ r, (secsM zs)[j]? = some r := ⟨_, List.getElem?_eq_getElem (by rw [← lp]; exact hj)⟩
    have ep := sY _ _ (at_ j p r hp hr')
    refine ⟨rfl, _, rfl, p, _, rfl, .inl ⟨.inl (.inl ep), fun u nu => ?_⟩⟩
    have su := same_upd (o := .tup (r.map V.str)) nu
    have e2u := su _ _ e2
    refine ⟨_, e2u, Nat.lt_of_lt_of_le (show (ts.map V.ref).length < 1000 by rw [List.length_map]; omega) (by decide), same_mut (sY.trans su) hD2, ts ++ [u], by rw [upd_same, List.map_append]; rfl, by rw [List.length_append, lt]; rfl, fun k p' r' hk h1 h2 => ?_⟩
    rcases Nat.lt_or_ge k j with hlt | hge
    · rw [List.getElem?_append_left (by omega)] at h1
      exact mut_tups e2u _ _ (su _ _ (ok k p' r' hlt h1 h2))
    · have : k = j := by omega
      subst this
      rw [List.getElem?_append_right (by omega), lt, Nat.sub_self] at h1
      rw [hr'] at h2
      cases h1
      cases h2
      exact mut_tups e2u _ _ upd_same
  obtain ⟨sY, ts, e2, lt, ok⟩ := p
  rw [List.length_map] at lt
  refine ⟨D2, _, rfl, .inl ⟨.inl (.inl e2), fun u nu => ?_⟩⟩
  have su := same_upd (o := .tup (ts.map V.ref)) nu
  refine q _ _ ((sH.trans sY).trans su) (.tup upd_same (by simp) ?_)
  exact secs_dt (by rw [lt, lp]) fun k p r h1 h2 => su _ _ (ok k p r (by rw [List.length_map, ← lt]; exact (List.getElem?_eq_some_iff.mp h1).1) h1 h2)
end
end Lx

namespace Lx
open PySem PySem.Spec PyProof.Rows L2 Ub Ur Ug Ue Up Uo Ve Va Vk Rw
section
variable {P : Program} {w : World} {K : PySem.W.Frag} {mg : Str → Option Value} {base : Heap}
theorem sc_SetRow___init__ : FnScope ["self", "path", "source", "word"] ["self", "path", "source", "word"] (defScope s_SetRow___init__) := ⟨rfl, rfl, rfl, by decide +kernel, rfl, by decide +kernel, by decide +kernel⟩
theorem ok_SetRow {fd : FuncData} (F : Df K ("SetRow", some "__init__") "__init__" "SetRow.__init__" s_SetRow___init__ [] fd) (T : Tx K mg) : FnOk P w K mg base (CX P w) 1 (He.fAd K ("SetRow", some "__init__")) fd ["self", "path", "source", "word"] (sp_setrow K) := by
  refine F.ok sc_SetRow___init__ (fun vs H Q E h => by obtain ⟨_, _, _, _, _, _, rfl, _⟩ := h; rfl) (fun cdv A outer s H vs Q E hr h => ?_)
  obtain ⟨C, x, dx, a, b, c, rfl, hx, ⟨cl, n1, n2, n3⟩, q⟩ := h
  refine ⟨_, (pss_cons (ps_fld (pv 0) (pv 1) rfl)
      (pss_cons (ps_fld (pv 0) (pv 2) rfl)
      (pss_one (ps_fld (pv 0) (pv 3) rfl)))), ?_⟩
  refine ⟨_, rfl, _, rfl, x, C, dx, [], rfl, hx, cl, n1, (by show 0 < 1000; decide), ?_⟩
  refine ⟨_, rfl, _, rfl, x, C, dx, [("path", .str a)], rfl, upd_same, cl, n2, (by show 1 < 1000; decide), ?_⟩
  refine ⟨_, rfl, _, rfl, x, C, dx, [("path", .str a), ("source", .str b)], rfl, upd_same, cl, n3, (by show 2 < 1000; decide), ?_⟩
  rw [upd_upd, upd_upd]
  exact q
theorem sc_made_row : FnScope ["mark", "path", "source", "word"] ["mark", "path", "source", "word"] (defScope s_made_row) := ⟨rfl, rfl, rfl, by decide +kernel, rfl, by decide +kernel, by decide +kernel⟩
theorem ok_made_row {fd : FuncData} (F : Df K ("made_row", none) "made_row" "made_row" s_made_row [] fd) (T : Tx K mg) (m_SetRow : CalM P w K mg base 1 "SetRow" (He.ga K "SetRow") ["self", "path", "source", "word"] (sp_setrow K)) (m_NewRow : CalM P w K mg base 1 "NewRow" (He.ga K "NewRow") ["self", "path", "source", "word"] (sp_setrow K))
    (m_EditRow : CalM P w K mg base 1 "EditRow" (He.ga K "EditRow") ["self", "path", "source", "word"] (sp_setrow K)) (m_MergeRow : CalM P w K mg base 1 "MergeRow" (He.ga K "MergeRow") ["self", "path", "source", "word"] (sp_setrow K)) :
    FnOk P w K mg base CX0 3 (He.ga K "made_row") fd ["mark", "path", "source", "word"] (sp_made K) := by
  refine F.ok sc_made_row (fun vs H Q E h => by obtain ⟨_, rfl, _⟩ := h; rfl) (fun cdv A outer s H vs Q E hr h => ?_)
  obtain ⟨⟨m, a, b, c⟩, rfl, q⟩ := h
  refine ⟨_, PSs.nox (pss_cons (ps_if (pt_cmpR op_eq (pv 0) pe_str (nomark _))
        (pss_one (ps_ret (pe_makeS m_SetRow (fun _ => passE0) (hr.mono (by omega)) (by rfl) (pa_cons (pv 1) (pa_cons (pv 2) (pa_cons (pv 3) pa_nil))))))
        pss_nil)
      (pss_cons (ps_if (pt_cmpR op_eq (pv 0) pe_str (nomark _))
        (pss_one (ps_ret (pe_makeS m_NewRow (fun _ => passE0) (hr.mono (by omega)) (by rfl) (pa_cons (pv 1) (pa_cons (pv 2) (pa_cons (pv 3) pa_nil))))))
        pss_nil)
      (pss_cons (ps_if (pt_cmpR op_eq (pv 0) pe_str (nomark _))
        (pss_one (ps_ret (pe_makeS m_EditRow (fun _ => passE0) (hr.mono (by omega)) (by rfl) (pa_cons (pv 1) (pa_cons (pv 2) (pa_cons (pv 3) pa_nil))))))
        pss_nil)
      (pss_one (ps_ret (pe_makeS m_MergeRow (fun _ => passE0) (hr.mono (by omega)) (by rfl) (pa_cons (pv 1) (pa_cons (pv 2) (pa_cons (pv 3) pa_nil))))))))), ?_⟩
  have fin : ∀ (D : Str), clsM m = D → (Cls K (He.ga K D) ∧ NoAttr K (He.ga K D) "path" ∧ NoAttr K (He.ga K D) "source" ∧ NoAttr K (He.ga K D) "word") → ∀ x dx, H x = none → H dx = none → dx ≠ x → sp_setrow K [.ref x, .str a, .str b, .str c] (upd (upd H dx (.own x)) x (.ins (He.ga K D) dx [])) (fun v H2 => v = .non ∧ Q (.ref x) H2) E0 := by
    intro D e cl x dx nx ndx hne
    refine ⟨_, x, dx, a, b, c, rfl, upd_same, cl, rfl, ?_⟩
    refine q x _ (same_mut ((same_upd ndx).trans (same_upd (by rw [upd_ne hne.symm]; exact nx))) nx) ⟨dx, ?_⟩
    rw [upd_same]
    show some (HO.ins (He.ga K D) dx _) = some (HO.ins (He.ga K (clsM m)) dx _)
    rw [e]
  refine ⟨_, rfl, rfl, _, rfl, ?_⟩
  by_cases h1 : m = "set"
  · exact iteY (by rw [h1]) ⟨_, rfl, _, rfl, _, rfl, fin "SetRow" (by unfold clsM; rw [if_pos h1]) ⟨T.k_SetRow, T.n_SetRow_path, T.n_SetRow_source, T.n_SetRow_word⟩⟩
  refine iteN (fun e => h1 (V.str.inj e)) ?_
  refine ⟨_, rfl, rfl, _, rfl, ?_⟩
  by_cases h2 : m = "new"
  · exact iteY (by rw [h2]) ⟨_, rfl, _, rfl, _, rfl, fin "NewRow" (by unfold clsM; rw [if_neg h1, if_pos h2]) ⟨T.k_NewRow, T.n_NewRow_path, T.n_NewRow_source, T.n_NewRow_word⟩⟩
  refine iteN (fun e => h2 (V.str.inj e)) ?_
  refine ⟨_, rfl, rfl, _, rfl, ?_⟩
  by_cases h3 : m = "edit"
  · exact iteY (by rw [h3]) ⟨_, rfl, _, rfl, _, rfl, fin "EditRow" (by unfold clsM; rw [if_neg h1, if_neg h2, if_pos h3]) ⟨T.k_EditRow, T.n_EditRow_path, T.n_EditRow_source, T.n_EditRow_word⟩⟩
  refine iteN (fun e => h3 (V.str.inj e)) ?_
  exact ⟨_, rfl, _, rfl, _, rfl, fin "MergeRow" (by unfold clsM; rw [if_neg h1, if_neg h2, if_neg h3]) ⟨T.k_MergeRow, T.n_MergeRow_path, T.n_MergeRow_source, T.n_MergeRow_word⟩⟩
theorem sc_term_of : FnScope ["shape", "parameters", "term", "word", "text", "source", "sign", "path"] ["shape", "parameters", "term"] (defScope s_term_of) := ⟨rfl, rfl, rfl, by decide +kernel, rfl, by decide +kernel, by decide +kernel⟩
theorem ok_term_of {fd : FuncData} (F : Df K ("term_of", none) "term_of" "term_of" s_term_of [] fd) (T : Tx K mg) (k_Shape_contains : CalK P w K mg base CX0 1 (He.ga K "Shape") "__contains__" ["self", "path"] (sp_con K (He.ga K "Shape")))
    (k_Shape_getitem : CalK P w K mg base (CX P w) 4 (He.ga K "Shape") "__getitem__" ["self", "path"] (sp_get K (He.ga K "Shape") (He.ga K "BadPath"))) (p_Shape_is_plain : CalP P w K mg base 1 (He.ga K "Shape") "is_plain" (sp_shP (He.ga K "Shape") fun t => .bl t.isNil)) :
    FnOk P w K mg base CX0 6 (He.ga K "term_of") fd ["shape", "parameters", "term"] (sp_term (He.ga K "Shape")) := by
  refine F.ok sc_term_of (fun vs H Q E h => by obtain ⟨_, _, _, _, _, _, rfl, _⟩ := h; rfl) (fun cdv A outer s H vs Q E hr h => ?_)
  obtain ⟨x, g, Z, pvv, ps, term, rfl, sh, gd, hp, l3, lt, q⟩ := h
  refine ⟨_, PSs.nox (pss_cons (ps_for PassesOwn.never rfl (pi_tupK K (pv 1)) (pg_tupK K (n := 2) rfl (pgs_cons (pg_name (i := 3) sc_term_of.nd rfl (by first | exact Or.inl rfl | exact Or.inr rfl)) (pgs_cons (pg_name (i := 4) sc_term_of.nd rfl (by first | exact Or.inl rfl | exact Or.inr rfl)) pgs_nil)))
        (pss_one (ps_if (pt_cmpR op_eq (pv 3) (pv 2) (nomark _))
            (pss_one (ps_ret (pe_tup (pa_cons pe_str (pa_cons (pv 3) (pa_cons (pv 4) pa_nil))))))
            pss_nil)))
      (pss_cons (ps_asg (pe_partition (pv 2) pe_str) (pg_tupK K (n := 3) rfl (pgs_cons (pg_name (i := 5) sc_term_of.nd rfl (by first | exact Or.inl rfl | exact Or.inr rfl)) (pgs_cons (pg_name (i := 6) sc_term_of.nd rfl (by first | exact Or.inl rfl | exact Or.inr rfl)) (pgs_cons (pg_name (i := 7) sc_term_of.nd rfl (by first | exact Or.inl rfl | exact Or.inr rfl)) pgs_nil)))))
      (pss_cons (ps_if (pt_cmpR op_eq (pv 6) pe_str (nomark _))
        (pss_one (ps_par (i := 5) (j := 7) (by rfl) sc_term_of.nd rfl rfl (by decide) rfl rfl (pa_cons pe_str (pa_cons (pv 2) pa_nil)) (by rfl)))
        (pss_one (ps_if (pt_cmpR (op_notIn_seqK K) (pv 5) (pe_tup (pa_cons pe_str (pa_cons pe_str pa_nil))) (by rfl))
            (pss_one (ps_ret pe_non))
            pss_nil)))
      (pss_cons (ps_if (PW.pt (pw_or (pt_cmpR op_eq (pv 7) pe_str (nomark _)) (pw_or1 (pt_cmpR (op_notInO k_Shape_contains (E := E0) (fun _ => pas0) (hr.mono (by omega))) (pv 7) (pv 0) (by rfl)))))
        (pss_one (ps_ret pe_non))
        pss_nil)
      (pss_cons (ps_if (PW.pt (pw_and (pt_cmpR op_eq (pv 5) pe_str (nomark _)) (pw_and1 (pt_val (pe_propP p_Shape_is_plain (hr.mono (by omega)) (pe_ixO k_Shape_getitem (fun _ => passE0) (hr.mono (by omega)) (pv 0) (pv 7) (fun _ _ => rfl)))))))
        (pss_one (ps_ret pe_non))
        pss_nil)
      (pss_one (ps_ret (pe_tup (pa_cons (pv 5) (pa_cons (pv 7) (pa_cons (pe_fldK K (pe_ixO k_Shape_getitem (fun _ => passE0) (hr.mono (by omega)) (pv 0) (pv 7) (fun _ _ => rfl)) rfl) pa_nil))))))))))), ?_⟩
  obtain ⟨p, qs, rfl, hp1, hl, hq⟩ := pars_at hp
  have ql : ∀ {i : Nat} {y : V}, (qs.map V.ref)[i]? = some y → ∃ m q, ps[i]? = some m ∧ y = .ref q ∧ H q = some (.tup [.str m.1, .str m.2]) := by
    intro i y e
    have hlt : i < ps.length := by
      have := (List.getElem?_eq_some_iff.mp e).1
      rw [List.length_map] at this
      omega
    obtain ⟨q, e1, e2⟩ := hq i _ (List.getElem?_eq_getElem hlt)
    refine ⟨_, q, List.getElem?_eq_getElem hlt, ?_, e2⟩
    rw [List.getElem?_map, e1] at e
    exact (Option.some.inj e).symm
  refine ⟨_, rfl, p, rfl, ⟨_, .inl (.inl hp1)⟩, ?_⟩
  refine for_tup (K := K) (a := p) (xs := qs.map V.ref) (fun i σ HH => ∃ y3 y4, σ = [some (.ref x), some (.ref p), some (.str term), y3, y4, none, none, none] ∧ HH = H ∧ givenM ps term = givenM (ps.drop i) term) ?_ (fun i σ HH _ pp => ?_) (fun i y σ HH hy pp => ?_) (fun σ HH pp => ?_)
  · exact ⟨_, _, rfl, rfl, rfl⟩
  · obtain ⟨_, _, _, rfl, _⟩ := pp
    exact .inl (.inl hp1)
  · obtain ⟨y3, y4, rfl, rfl, hg⟩ := pp
    obtain ⟨m, q0, hm, rfl, hq0⟩ := ql hy
    refine ⟨q0, _, rfl, .inl (.inl hq0), rfl, _, _, rfl, _, _, rfl, rfl, ?_⟩
    refine ⟨_, rfl, _, rfl, rfl, _, rfl, ?_⟩
    by_cases e : m.1 = term
    · refine iteY (by rw [e]) ?_
      refine ⟨_, rfl, _, rfl, (by show 3 ≤ sizeLine; decide), fun u nu => ?_⟩
      have et : termM g.tr ps term = some (("given" : Str), m.1, m.2) := by
        unfold termM
        rw [hg, given_here hm e]
      have q1 := q _ (same_upd (o := .tup [.str "given", .str m.1, .str m.2]) nu)
      rw [et] at q1
      exact q1 u upd_same
    · refine iteN (fun z => e (V.str.inj z)) ?_
      exact ⟨_, _, rfl, rfl, by rw [hg]; exact given_drop hm e⟩
  obtain ⟨y3, y4, rfl, rfl, hg⟩ := pp
  have g0 : givenM ps term = none := by
    rw [hg, List.length_map, hl, List.drop_length]
    rfl
  have et : termM g.tr ps term = (match srcM term with | none => none | some q => pathM g.tr q.1 q.2) := by
    unfold termM
    rw [g0]
    all_goals rfl
  rw [et] at q
  clear et hg g0 ql hq hl hp l3
  refine ⟨_, rfl, ⟨_, rfl⟩, term, " ", rfl, rfl, by decide +kernel, Nat.le_trans lt (by decide), fun pp npp => ?_⟩
  have spp := same_upd (o := .tup [.str (Txt.partition term " ").1, .str (Txt.partition term " ").2.1, .str (Txt.partition term " ").2.2]) npp
  refine ⟨pp, _, rfl, .inl (.inl upd_same), rfl, _, _, rfl, _, _, rfl, _, _, rfl, rfl, ?_⟩
  generalize upd HH pp (.tup [.str (Txt.partition term " ").1, .str (Txt.partition term " ").2.1, .str (Txt.partition term " ").2.2]) = H1 at *
  dsimp only [gName]
  refine seqJ (fun σ' H' => ∃ s5 y6 p7, srcM term = some (s5, p7) ∧ σ' = [some (.ref x), some (.ref p), some (.str term), y3, y4, some (.str s5), y6, some (.str p7)] ∧ Same HH H') (fun D' hD' ert _ _ => ?_) (fun σ' H' hR => ?_)
  · refine ⟨_, rfl, rfl, _, rfl, ?_⟩
    by_cases e : (Txt.partition term " ").2.1 = ""
    · refine iteY (by rw [e]) ?_
      refine ⟨_, rfl, _, _, rfl, hD' _ _ ⟨"present", _, term, ?_, rfl, spp⟩⟩
      unfold srcM
      rw [if_pos e]
    · refine iteN (fun z => e (V.str.inj z)) ?_
      refine ⟨_, rfl, (by show 2 ≤ sizeLine; decide), fun c nc => ?_⟩
      have sc := same_upd (o := .tup [.str "old", .str "copy"]) nc
      refine ⟨c, (["old", "copy"] : List Str).map V.str, rfl, .inr (.inl (.inl upd_same)), rfl, rfl, _, rfl, ?_⟩
      have q0 := q
      unfold srcM at q0
      rw [if_neg e] at q0
      refine iteE (c := !decide ((Txt.partition term " ").1 ∈ (["old", "copy"] : List Str))) (by show (!inV (.str _) ((["old", "copy"] : List Str).map V.str)) = _; rw [inV_str]) (fun e1 => ?_) (fun e1 => ?_)
      · have h1 : ¬ ((Txt.partition term " ").1 = "old" ∨ (Txt.partition term " ").1 = "copy") := by
          have : (Txt.partition term " ").1 ∉ (["old", "copy"] : List Str) := of_decide_eq_false (notT e1)
          simpa using this
        rw [if_neg h1] at q0
        show D'.rt _ _
        rw [ert]
        exact q0 _ (spp.trans sc)
      · have h1 : (Txt.partition term " ").1 = "old" ∨ (Txt.partition term " ").1 = "copy" := by
          have : (Txt.partition term " ").1 ∈ (["old", "copy"] : List Str) := of_decide_eq_true (notF e1)
          simpa using this
        refine hD' _ _ ⟨_, _, _, ?_, rfl, spp.trans sc⟩
        unfold srcM
        rw [if_neg e, if_pos h1]
  obtain ⟨s5, y6, p7, es, rfl, sH⟩ := hR
  rw [es] at q
  have q : ∀ H', Same HH H' → (match pathM g.tr s5 p7 with | none => Q .non H' | some r => ∀ p, H' p = some (.tup [.str r.1, .str r.2.1, .str r.2.2]) → Q (.ref p) H') := q
  clear es spp npp
  have sh1 := sh.kz (kz_of sH)
  obtain ⟨dxs, tvs, na, fa, sa, f1, _⟩ := id sh1.1
  refine ⟨_, rfl, rfl, _, rfl, ?_⟩
  unfold pathM atM at q
  by_cases e7 : p7 = "."
  · refine iteY (by rw [e7]) (iteT ?_)
    rw [if_pos e7] at q
    exact q _ sH
  rw [if_neg e7] at q
  refine iteN (fun z => e7 (V.str.inj z)) ?_
  refine ⟨_, rfl, _, rfl, x, dxs, _, rfl, f1, x, g, Z, _, rfl, sh1, gd, .inl ⟨p7, rfl, _, rfl, _, rfl, ?_⟩⟩
  rcases at_shape sh1 gd p7 with ⟨hno, el⟩ | ⟨hin, m, hm, e1, el, shm, gm⟩
  · rw [decide_eq_false hno]
    rw [el] at q
    exact iteT (q _ sH)
  rw [decide_eq_true hin]
  refine iteF ?_
  rw [el] at q
  have q : ∀ H', Same HH H' → (match (if s5 = "copy" ∧ m.2.2.tr.isNil = true then none else some (s5, p7, m.2.2.tr.text)) with | none => Q .non H' | some r => ∀ p, H' p = some (.tup [.str r.1, .str r.2.1, .str r.2.2]) → Q (.ref p) H') := q
  obtain ⟨dxm, tvm, nam, fam, sam, fm, _⟩ := id shm.1
  have fin : ∀ H2, Same H' H2 → ¬ (s5 = "copy" ∧ m.2.2.tr.isNil = true) → tRet (tTup (tCons (tVar 5) (tCons (tVar 7) (tCons (tFld K (tIxO (He.ga K "Shape") (sp_get K (He.ga K "Shape") (He.ga K "BadPath")) (fun x => E0) (tVar 0) (tVar 7)) "text") tNil)))) { nx := fun x H' => Q V.non H', rt := Q } [some (.ref x), some (.ref p), some (.str term), y3, y4, some (.str s5), y6, some (.str p7)] H2 := by
    intro H2 s2 hc
    have sh2 := sh1.kz (kz_of s2)
    refine ⟨_, rfl, _, rfl, _, rfl, _, rfl, x, dxs, _, rfl, s2 _ _ f1, x, g, Z, _, rfl, sh2, gd, .inl ⟨m, hm, by rw [e1], ?_⟩⟩
    refine ⟨m.2.1, _, dxm, _, _, rfl, s2 _ _ fm, T.k_Shape, T.n_Shape_text, rfl, (by show 3 ≤ sizeLine; decide), fun u nu => ?_⟩
    have q1 := q _ ((sH.trans s2).trans (same_upd (o := .tup [.str s5, .str p7, .str m.2.2.tr.text]) nu))
    rw [if_neg hc] at q1
    exact q1 u upd_same
  refine ⟨_, rfl, rfl, _, rfl, ?_⟩
  by_cases ec : s5 = "copy"
  rotate_left
  · exact iteN (fun z => ec (V.str.inj z)) (iteF (fin _ (Same.refl _) (fun z => ec z.1)))
  refine iteY (by rw [ec]) ?_
  refine ⟨_, rfl, _, rfl, x, dxs, _, rfl, f1, x, g, Z, _, rfl, sh1, gd, .inl ⟨m, hm, by rw [e1], ?_⟩⟩
  refine ⟨m.2.1, dxm, _, rfl, fm, m.2.1, m.2.2, Z, rfl, shm, gm, fun H3 s3 => ⟨_, rfl, ?_⟩⟩
  cases en : m.2.2.tr.isNil with
  | true =>
    have q1 := q _ (sH.trans s3)
    rw [if_pos ⟨ec, en⟩] at q1
    exact iteT q1
  | false => exact iteF (fin _ s3 (fun z => by rw [en] at z; exact nomatch z.2))
end
end Lx

namespace Lx
open PySem PySem.Spec PyProof.Rows L2 Ub Ur Ug Ue Up Uo Ve Va Vk Rw
section
variable {P : Program} {w : World} {K : PySem.W.Frag} {mg : Str → Option Value} {base : Heap}
theorem sc_read_row : FnScope ["shape", "parameters", "row", "head", "sign", "term", "mark", "blank", "path", "read"] ["shape", "parameters", "row"] (defScope s_read_row) := ⟨rfl, rfl, rfl, by decide +kernel, rfl, by decide +kernel, by decide +kernel⟩
theorem ok_read_row {fd : FuncData} (F : Df K ("read_row", none) "read_row" "read_row" s_read_row [] fd) (T : Tx K mg) (k_Shape_contains : CalK P w K mg base CX0 1 (He.ga K "Shape") "__contains__" ["self", "path"] (sp_con K (He.ga K "Shape")))
    (k_Shape_getitem : CalK P w K mg base (CX P w) 4 (He.ga K "Shape") "__getitem__" ["self", "path"] (sp_get K (He.ga K "Shape") (He.ga K "BadPath"))) (c_term_of : Cal P w K mg base 6 "term_of" ["shape", "parameters", "term"] (sp_term (He.ga K "Shape"))) (c_made_row : Cal P w K mg base 3 "made_row" ["mark", "path", "source", "word"] (sp_made K)) :
    FnOk P w K mg base CX0 7 (He.ga K "read_row") fd ["shape", "parameters", "row"] (sp_rrow K (He.ga K "Shape")) := by
  refine F.ok sc_read_row (fun vs H Q E h => by obtain ⟨_, _, _, _, _, _, _, rfl, _⟩ := h; rfl) (fun cdv A outer s H vs Q E hr h => ?_)
  obtain ⟨x, g, Z, pvv, ps, v, o, rfl, sh, gd, hp, l3, hv, q⟩ := h
  refine ⟨_, PSs.nox (pss_cons (ps_if (pt_not (pt_val (pe_callB (call_isiK' K) (by rfl) T.isinstance (by decide +kernel) (pa_cons (pv 2) (pa_cons (pe_bltn (v := .ty "str") (by rfl) T.str (by decide +kernel) rfl) pa_nil)))))
        (pss_one (ps_ret pe_non))
        pss_nil)
      (pss_cons (ps_asg (pe_partition (pv 2) pe_str) (pg_tupK K (n := 3) rfl (pgs_cons (pg_name (i := 3) sc_read_row.nd rfl (by first | exact Or.inl rfl | exact Or.inr rfl)) (pgs_cons (pg_name (i := 4) sc_read_row.nd rfl (by first | exact Or.inl rfl | exact Or.inr rfl)) (pgs_cons (pg_name (i := 5) sc_read_row.nd rfl (by first | exact Or.inl rfl | exact Or.inr rfl)) pgs_nil)))))
      (pss_cons (ps_asg (pe_partition (pv 3) pe_str) (pg_tupK K (n := 3) rfl (pgs_cons (pg_name (i := 6) sc_read_row.nd rfl (by first | exact Or.inl rfl | exact Or.inr rfl)) (pgs_cons (pg_name (i := 7) sc_read_row.nd rfl (by first | exact Or.inl rfl | exact Or.inr rfl)) (pgs_cons (pg_name (i := 8) sc_read_row.nd rfl (by first | exact Or.inl rfl | exact Or.inr rfl)) pgs_nil)))))
      (pss_cons (ps_if (PW.pt (pw_or (pt_cmpR op_eq (pv 4) pe_str (nomark _)) (pw_or (pt_cmpR (op_notIn_seqK K) (pv 6) (pe_globR (by rfl) T.g_MARKS_writing) (by rfl)) (pw_or (pt_cmpR op_eq (pv 8) pe_str (nomark _)) (pw_or1 (pt_cmpR (op_notInO k_Shape_contains (E := E0) (fun _ => pas0) (hr.mono (by omega))) (pv 8) (pv 0) (by rfl)))))))
        (pss_one (ps_ret pe_non))
        pss_nil)
      (pss_cons (ps_set (i := 9) sc_read_row.nd rfl (by first | exact Or.inl rfl | exact Or.inr rfl) (pe_cal c_term_of (hr.mono (by omega)) (by rfl) (pa_cons (pv 0) (pa_cons (pv 1) (pa_cons (pv 5) pa_nil)))))
      (pss_cons (ps_if (PW.pt (pw_or (pt_cmpR op_isN (pv 9) pe_non (nomark _)) (pw_or1 (pt_cmpR op_ne (pe_ix (ix_tupK K) (pv 9) pe_int (fun _ _ => rfl)) (pe_fldK K (pe_ixO k_Shape_getitem (fun _ => passE0) (hr.mono (by omega)) (pv 0) (pv 8) (fun _ _ => rfl)) rfl) (nomark _)))))
        (pss_one (ps_ret pe_non))
        pss_nil)
      (pss_one (ps_ret (pe_cal c_made_row (hr.mono (by omega)) (by rfl) (pa_cons (pv 6) (pa_cons (pv 8) (pa_cons (pe_ix (ix_tupK K) (pv 9) pe_int (fun _ _ => rfl)) (pa_cons (pe_ix (ix_tupK K) (pv 9) pe_int (fun _ _ => rfl)) pa_nil))))))))))))), ?_⟩
  cases o with
  | none =>
    obtain ⟨_, _, Ty, ht, hk⟩ := hv
    refine ⟨_, rfl, _, _, _, _, false, rfl, .ty "str", ht, kit_ty hk, _, rfl, ?_⟩
    exact iteT (q _ (Same.refl _))
  | some row =>
    obtain ⟨rfl, lr⟩ := hv
    refine ⟨_, rfl, _, _, _, _, true, rfl, .ty "str", .base (.str _), kit_ty (show kitB "str" "str" = some true by decide +kernel), _, rfl, ?_⟩
    refine iteF ?_
    have q : ∀ H', Same H H' → (match rowM g.tr ps row with | none => Q .non H' | some r => ∀ p, RowAt K H' p r → Q (.ref p) H') := q
    refine ⟨_, rfl, ⟨_, rfl⟩, row, " = ", rfl, rfl, by decide +kernel, Nat.le_trans lr (by decide), fun p1 np1 => ?_⟩
    have fp := part_len row " = "
    have s1 := same_upd (o := .tup [.str (Txt.partition row " = ").1, .str (Txt.partition row " = ").2.1, .str (Txt.partition row " = ").2.2]) np1
    refine ⟨p1, _, rfl, .inl (.inl upd_same), rfl, _, _, rfl, _, _, rfl, _, _, rfl, rfl, ?_⟩
    refine ⟨_, rfl, ⟨_, rfl⟩, headM row, " ", rfl, rfl, by decide +kernel, Nat.le_trans (Nat.le_trans fp.1 lr) (by decide), fun p2 np2 => ?_⟩
    have s2 := same_upd (o := .tup [.str (Txt.partition (headM row) " ").1, .str (Txt.partition (headM row) " ").2.1, .str (Txt.partition (headM row) " ").2.2]) np2
    refine ⟨p2, _, rfl, .inl (.inl upd_same), rfl, _, _, rfl, _, _, rfl, _, _, rfl, rfl, ?_⟩
    have s12 := s1.trans s2
    generalize (upd (upd H p1 (.tup [.str (Txt.partition row " = ").1, .str (Txt.partition row " = ").2.1, .str (Txt.partition row " = ").2.2])) p2 (.tup [.str (Txt.partition (headM row) " ").1, .str (Txt.partition (headM row) " ").2.1, .str (Txt.partition (headM row) " ").2.2])) = H1 at *
    clear s1 s2 np2
    have sh1 := sh.kz (kz_of s12)
    obtain ⟨dxs, tvs, na, fa, sa, f1, _⟩ := id sh1.1
    unfold rowM at q
    refine ⟨_, rfl, rfl, _, rfl, ?_⟩
    by_cases e1 : (Txt.partition row " = ").2.1 = ""
    · refine iteY (by rw [e1]) (iteT ?_)
      rw [if_pos e1] at q
      exact q _ s12
    rw [if_neg e1] at q
    refine iteN (fun z => e1 (V.str.inj z)) ?_
    refine ⟨_, rfl, _, marks.map V.str, rfl, .inr (T.t_MARKS_writing _), rfl, rfl, _, rfl, ?_⟩
    refine iteE (c := !decide ((Txt.partition (headM row) " ").1 ∈ marks)) (by show (!inV (.str _) (marks.map V.str)) = _; rw [inV_str]) (fun e2 => ?_) (fun e2 => ?_)
    · have h2 : (Txt.partition (headM row) " ").1 ∉ marks := of_decide_eq_false (notT e2)
      rw [if_pos h2] at q
      exact iteT (q _ s12)
    have h2 : (Txt.partition (headM row) " ").1 ∈ marks := of_decide_eq_true (notF e2)
    rw [if_neg (fun z => z h2)] at q
    clear e2
    generalize (Txt.partition (headM row) " ").2.2 = path at *
    generalize (Txt.partition (headM row) " ").1 = mark at *
    unfold atM at q
    refine ⟨_, rfl, rfl, _, rfl, ?_⟩
    by_cases e7 : path = "."
    · refine iteY (by rw [e7]) (iteT ?_)
      rw [if_pos e7] at q
      exact q _ s12
    rw [if_neg e7] at q
    refine iteN (fun z => e7 (V.str.inj z)) ?_
    refine ⟨_, rfl, _, rfl, x, dxs, _, rfl, f1, x, g, Z, _, rfl, sh1, gd, .inl ⟨path, rfl, _, rfl, _, rfl, ?_⟩⟩
    rcases at_shape sh1 gd path with ⟨hno, el⟩ | ⟨hin, m, hm, em, el, shm, gm⟩
    · rw [decide_eq_false hno]
      rw [el] at q
      exact iteT (q _ s12)
    rw [decide_eq_true hin]
    refine iteF ?_
    rw [el] at q
    have q : ∀ H', Same H H' → (match (match termM g.tr ps (Txt.partition row " = ").2.2 with | none => none | some r => if r.2.2 = m.2.2.tr.text then some (mark, path, r.1, r.2.1) else none) with | none => Q .non H' | some r => ∀ p, RowAt K H' p r → Q (.ref p) H') := q
    obtain ⟨dxm, tvm, nam, fam, sam, fm, _⟩ := id shm.1
    refine ⟨_, rfl, _, rfl, _, rfl, x, g, Z, pvv, ps, _, rfl, sh1, gd, hp.same s12, l3, Nat.le_trans fp.2.2 lr, fun H2 s2 => ?_⟩
    have s02 := s12.trans s2
    cases et : termM g.tr ps (Txt.partition row " = ").2.2 with
    | none =>
      rw [et] at q
      refine ⟨_, rfl, rfl, _, rfl, iteY rfl (iteT (q _ s02))⟩
    | some r =>
      rw [et] at q
      have q : ∀ H', Same H H' → (match (if r.2.2 = m.2.2.tr.text then some (mark, path, r.1, r.2.1) else none) with | none => Q .non H' | some r => ∀ p, RowAt K H' p r → Q (.ref p) H') := q
      intro p3 h3
      have sh2 := sh1.kz (kz_of s2)
      refine ⟨_, rfl, rfl, _, rfl, iteN (fun z => nomatch z) ?_⟩
      refine ⟨_, rfl, p3, _, _, _, rfl, rfl, .inl (.inl h3), atI_nat (j := 2) rfl, ?_⟩
      refine ⟨_, rfl, _, rfl, x, dxs, _, rfl, s2 _ _ f1, x, g, Z, _, rfl, sh2, gd, .inl ⟨m, hm, by rw [em], ?_⟩⟩
      refine ⟨m.2.1, _, dxm, _, _, rfl, s2 _ _ fm, T.k_Shape, T.n_Shape_text, rfl, rfl, _, rfl, ?_⟩
      by_cases ee : r.2.2 = m.2.2.tr.text
      rotate_left
      · have q1 := q _ s02
        rw [if_neg ee] at q1
        exact iteE (c := true) (by simp [ee]) (fun _ => q1) (fun z => nomatch z)
      have q1 := fun H' s => q H' s
      rw [if_pos ee] at q1
      refine iteE (c := false) (by simp [ee]) (fun z => nomatch z) (fun _ => ?_)
      refine ⟨_, rfl, _, rfl, _, rfl, p3, _, _, _, rfl, rfl, .inl (.inl h3), atI_nat (j := 0) rfl, ?_⟩
      refine ⟨_, rfl, p3, _, _, _, rfl, rfl, .inl (.inl h3), atI_nat (j := 1) rfl, ?_⟩
      exact ⟨(mark, path, r.1, r.2.1), rfl, fun y H3 s3 hy => q1 _ (s02.trans s3) y hy⟩
end
end Lx

namespace Lx
open PySem PySem.Spec PyProof.Rows L2 Ub Ur Ug Ue Up Uo Ve Va Vk Rw
section
variable {P : Program} {w : World} {K : PySem.W.Frag} {mg : Str → Option Value} {base : Heap}
theorem boolq {a b : Bool} {Q : VK} {H : Hp} (e : a = b) (h : Q (.bl b) H) : Q (.bl a) H := by rw [e]; exact h
theorem sc_fits_behind : FnScope ["shape", "parameters", "rows", "row", "thens", "one"] ["shape", "parameters", "rows", "row"] (defScope s_fits_behind) := ⟨rfl, rfl, rfl, by decide +kernel, rfl, by decide +kernel, by decide +kernel⟩
theorem ok_fits_behind {fd : FuncData} (F : Df K ("fits_behind", none) "fits_behind" "fits_behind" s_fits_behind [] fd) (T : Tx K mg) (c_read_row : Cal P w K mg base 7 "read_row" ["shape", "parameters", "row"] (sp_rrow K (He.ga K "Shape"))) :
    FnOk P w K mg base CX0 8 (He.ga K "fits_behind") fd ["shape", "parameters", "rows", "row"] (sp_fits K (He.ga K "Shape")) := by
  refine F.ok sc_fits_behind (fun vs H Q E h => by obtain ⟨_, _, _, _, _, _, _, _, _, rfl, _⟩ := h; rfl) (fun cdv A outer s H vs Q E hr h => ?_)
  obtain ⟨x, g, Z, pvv, ps, rs, zs, v, o, rfl, sh, gd, hp, l3, hrs, lz, hv, hsc, hno, q⟩ := h
  rcases hrs with hrs | hrs
  · refine ⟨_, PSs.nox (pss_cons (ps_set (i := 4) sc_fits_behind.nd rfl (by first | exact Or.inl rfl | exact Or.inr rfl) (pe_callB (call_len_seqK K) (by rfl) T.len (by decide +kernel) (pa_cons (pe_lc (own := [("one", 5)]) (by rfl) sc_fits_behind.nd (pi_tupK K (pv 2)) (blkOk_by (N := ["shape", "parameters", "rows", "row", "thens", "one"]) (sc := (defScope s_fits_behind)) (by decide +kernel)) (fun _ _ _ _ _ => (pg_name (i := 5) sc_fits_behind.nd rfl (by first | exact Or.inl rfl | exact Or.inr rfl))) (fun _ _ _ _ _ => pts_one (pt_cmpR op_eq (pv 5) pe_str (nomark _))) (fun _ _ _ _ _ => (pv 5))) pa_nil)))
      (pss_cons (ps_if (pt_cmpR op_eq (pv 3) pe_str (nomark _))
        (pss_one (ps_ret (pe_cmpR op_lt (pv 4) (pe_globI (by rfl) T.c_MOST_THENS) (nomark _))))
        pss_nil)
      (pss_one (ps_ret (pe_and (pe_cmpR op_lt (pe_op op_sub (pe_callB (call_len_seqK K) (by rfl) T.len (by decide +kernel) (pa_cons (pv 2) pa_nil)) (pv 4)) (pe_globI (by rfl) T.c_MOST_ROWS) (nomark _)) (pe_one (pe_cmpR op_notN (pe_cal c_read_row (hr.mono (by omega)) (by rfl) (pa_cons (pv 0) (pa_cons (pv 1) (pa_cons (pv 3) pa_nil)))) pe_non (nomark _)))))))), ?_⟩
    refine ⟨_, rfl, rs, rfl, ⟨_, .inl (.inl hrs)⟩, fun D hD => ?_⟩
    refine lcW (walk_tup (K := K) (a := rs) (xs := zs.map V.str)) (fun y => if y = .str "then" then some y else none) (fun HH s => .inl (.inl (s _ _ hrs))) (by rw [List.length_map]; exact Nat.le_trans lz (by decide)) hD (fun i y HH hy sH => ?_) (fun H1 s1 d1 => ?_)
    · intro Q1 Q0 h1 h0
      obtain ⟨z, _, rfl⟩ : ∃ z, zs[i]? = some z ∧ V.str z = y := by simpa using hy
      refine ⟨rfl, _, rfl, rfl, _, rfl, ?_⟩
      by_cases e : V.str z = .str "then"
      · exact iteY e ⟨_, rfl, h1 _ _ (if_pos e) (Same.refl _)⟩
      · exact iteN e (h0 _ (if_neg e) (Same.refl _))
    rw [thens_map] at d1
    refine ⟨D, _, rfl, .inl (.inl (.inl d1)), ?_⟩
    rw [List.length_map, ← thensM]
    have shd := sh.kz (kz_of s1)
    refine ⟨_, rfl, hsc, _, rfl, ?_⟩
    by_cases e : v = .str "then"
    · refine iteY e ?_
      have eo : o = some ("then" : Str) := by
        cases o with
        | none => exact absurd e (hno rfl)
        | some z => rw [V.str.inj (hv.1.symm.trans e)]
      rw [eo] at q
      exact ⟨_, rfl, _, _, rfl, rfl, by
        have q1 := q H1 s1
        rw [fits_then] at q1
        exact boolq (Q := Q) (show decide ((thensM zs : Int) < 3) = decide (thensM zs < 3) by rw [decide_eq_decide]; omega) q1⟩
    refine iteN e ?_
    refine ⟨_, rfl, rs, _, rfl, (.inr (.inl (.inl (s1 _ _ hrs)))), _, rfl, _, _, rfl, rfl, _, _, rfl, rfl, ?_⟩
    have hlen := thens_le zs
    have el : decide (((zs.map V.str).length : Int) - (thensM zs : Int) < 8) = decide (zs.length - thensM zs < 8) := by
      rw [List.length_map, decide_eq_decide]
      omega
    refine ⟨_, rfl, ?_⟩
    rw [el]
    have q1 : ∀ H', Same H1 H' → Q (.bl (fitsV g.tr ps zs o)) H' := fun H' s' => q H' (s1.trans s')
    have ef : fitsV g.tr ps zs o = (decide (zs.length - thensM zs < 8) && (o.bind (rowM g.tr ps)).isSome) := by
      cases o with
      | none => exact (Bool.and_false _).symm
      | some z =>
        exact if_neg (fun h : z = "then" => e (by rw [hv.1, h]))
    rw [ef] at q1
    by_cases h8 : zs.length - thensM zs < 8
    rotate_left
    · rw [decide_eq_false h8] at q1 ⊢
      exact q1 _ (Same.refl _)
    rw [decide_eq_true h8] at q1 ⊢
    refine iteT ?_
    refine ⟨_, rfl, _, rfl, _, rfl, x, g, Z, pvv, ps, v, o, rfl, shd, gd, hp.same s1, l3, ?_, fun H2 s2 => ?_⟩
    · cases o with
      | none =>
        obtain ⟨d, hd, hn⟩ := hv
        exact ⟨d, hd.same s1, notStr_same hd s1 hn⟩
      | some z => exact hv
    have q2 := q1 H2 s2
    cases er : o.bind (rowM g.tr ps) with
    | none =>
      rw [er] at q2
      exact ⟨rfl, q2⟩
    | some r =>
      rw [er] at q2
      exact fun p hp => ⟨rfl, q2⟩
  · refine ⟨_, PSs.nox (pss_cons (ps_set (i := 4) sc_fits_behind.nd rfl (by first | exact Or.inl rfl | exact Or.inr rfl) (pe_callB (call_len_seqK K) (by rfl) T.len (by decide +kernel) (pa_cons (pe_lc (own := [("one", 5)]) (by rfl) sc_fits_behind.nd (pi_listK K (pv 2)) (blkOk_by (N := ["shape", "parameters", "rows", "row", "thens", "one"]) (sc := (defScope s_fits_behind)) (by decide +kernel)) (fun _ _ _ _ _ => (pg_name (i := 5) sc_fits_behind.nd rfl (by first | exact Or.inl rfl | exact Or.inr rfl))) (fun _ _ _ _ _ => pts_one (pt_cmpR op_eq (pv 5) pe_str (nomark _))) (fun _ _ _ _ _ => (pv 5))) pa_nil)))
      (pss_cons (ps_if (pt_cmpR op_eq (pv 3) pe_str (nomark _))
        (pss_one (ps_ret (pe_cmpR op_lt (pv 4) (pe_globI (by rfl) T.c_MOST_THENS) (nomark _))))
        pss_nil)
      (pss_one (ps_ret (pe_and (pe_cmpR op_lt (pe_op op_sub (pe_callB (call_len_seqK K) (by rfl) T.len (by decide +kernel) (pa_cons (pv 2) pa_nil)) (pv 4)) (pe_globI (by rfl) T.c_MOST_ROWS) (nomark _)) (pe_one (pe_cmpR op_notN (pe_cal c_read_row (hr.mono (by omega)) (by rfl) (pa_cons (pv 0) (pa_cons (pv 1) (pa_cons (pv 3) pa_nil)))) pe_non (nomark _)))))))), ?_⟩
    refine ⟨_, rfl, rs, rfl, ⟨_, .inl (.inl hrs)⟩, fun D hD => ?_⟩
    refine lcW (walk_list (K := K) (a := rs) (xs := zs.map V.str)) (fun y => if y = .str "then" then some y else none) (fun HH s => .inl (.inl (s _ _ hrs))) (by rw [List.length_map]; exact Nat.le_trans lz (by decide)) hD (fun i y HH hy sH => ?_) (fun H1 s1 d1 => ?_)
    · intro Q1 Q0 h1 h0
      obtain ⟨z, _, rfl⟩ : ∃ z, zs[i]? = some z ∧ V.str z = y := by simpa using hy
      refine ⟨rfl, _, rfl, rfl, _, rfl, ?_⟩
      by_cases e : V.str z = .str "then"
      · exact iteY e ⟨_, rfl, h1 _ _ (if_pos e) (Same.refl _)⟩
      · exact iteN e (h0 _ (if_neg e) (Same.refl _))
    rw [thens_map] at d1
    refine ⟨D, _, rfl, .inl (.inl (.inl d1)), ?_⟩
    rw [List.length_map, ← thensM]
    have shd := sh.kz (kz_of s1)
    refine ⟨_, rfl, hsc, _, rfl, ?_⟩
    by_cases e : v = .str "then"
    · refine iteY e ?_
      have eo : o = some ("then" : Str) := by
        cases o with
        | none => exact absurd e (hno rfl)
        | some z => rw [V.str.inj (hv.1.symm.trans e)]
      rw [eo] at q
      exact ⟨_, rfl, _, _, rfl, rfl, by
        have q1 := q H1 s1
        rw [fits_then] at q1
        exact boolq (Q := Q) (show decide ((thensM zs : Int) < 3) = decide (thensM zs < 3) by rw [decide_eq_decide]; omega) q1⟩
    refine iteN e ?_
    refine ⟨_, rfl, rs, _, rfl, (.inl (.inl (.inl (s1 _ _ hrs)))), _, rfl, _, _, rfl, rfl, _, _, rfl, rfl, ?_⟩
    have hlen := thens_le zs
    have el : decide (((zs.map V.str).length : Int) - (thensM zs : Int) < 8) = decide (zs.length - thensM zs < 8) := by
      rw [List.length_map, decide_eq_decide]
      omega
    refine ⟨_, rfl, ?_⟩
    rw [el]
    have q1 : ∀ H', Same H1 H' → Q (.bl (fitsV g.tr ps zs o)) H' := fun H' s' => q H' (s1.trans s')
    have ef : fitsV g.tr ps zs o = (decide (zs.length - thensM zs < 8) && (o.bind (rowM g.tr ps)).isSome) := by
      cases o with
      | none => exact (Bool.and_false _).symm
      | some z =>
        exact if_neg (fun h : z = "then" => e (by rw [hv.1, h]))
    rw [ef] at q1
    by_cases h8 : zs.length - thensM zs < 8
    rotate_left
    · rw [decide_eq_false h8] at q1 ⊢
      exact q1 _ (Same.refl _)
    rw [decide_eq_true h8] at q1 ⊢
    refine iteT ?_
    refine ⟨_, rfl, _, rfl, _, rfl, x, g, Z, pvv, ps, v, o, rfl, shd, gd, hp.same s1, l3, ?_, fun H2 s2 => ?_⟩
    · cases o with
      | none =>
        obtain ⟨d, hd, hn⟩ := hv
        exact ⟨d, hd.same s1, notStr_same hd s1 hn⟩
      | some z => exact hv
    have q2 := q1 H2 s2
    cases er : o.bind (rowM g.tr ps) with
    | none =>
      rw [er] at q2
      exact ⟨rfl, q2⟩
    | some r =>
      rw [er] at q2
      exact fun p hp => ⟨rfl, q2⟩
end
end Lx

namespace Lx
open PySem PySem.Spec PyProof.Rows L2 Ub Ur Ug Ue Up Uo Ve Va Vk Rw
section
variable {P : Program} {w : World} {K : PySem.W.Frag} {mg : Str → Option Value} {base : Heap}
theorem sc_split_rows : FnScope ["rows", "ends", "starts", "at", "row", "start", "end"] ["rows"] (defScope s_split_rows) := ⟨rfl, rfl, rfl, by decide +kernel, rfl, by decide +kernel, by decide +kernel⟩
theorem ok_split_rows {fd : FuncData} (F : Df K ("split_rows", none) "split_rows" "split_rows" s_split_rows [] fd) (T : Tx K mg) : FnOk P w K mg base CX0 1 (He.ga K "split_rows") fd ["rows"] sp_split := by
  refine F.ok sc_split_rows (fun vs H Q E h => by obtain ⟨_, _, rfl, _⟩ := h; rfl) (fun cdv A outer s H vs Q E hr h => ?_)
  obtain ⟨rs, zs, rfl, hrs, lz, q⟩ := h
  refine ⟨_, PSs.nox (pss_cons (ps_set (i := 1) sc_split_rows.nd rfl (by first | exact Or.inl rfl | exact Or.inr rfl) (pe_op op_cat (pe_lc (own := [("at", 3), ("row", 4)]) (by rfl) sc_split_rows.nd (Un.pi_enumT K (by rfl) T.enumerate (pa_cons (pv 0) pa_nil)) (blkOk_by (N := ["rows", "ends", "starts", "at", "row", "start", "end"]) (sc := (defScope s_split_rows)) (by decide +kernel)) (fun _ _ _ _ _ => (pg_tupK K (n := 2) rfl (pgs_cons (pg_name (i := 3) sc_split_rows.nd rfl (by first | exact Or.inl rfl | exact Or.inr rfl)) (pgs_cons (pg_name (i := 4) sc_split_rows.nd rfl (by first | exact Or.inl rfl | exact Or.inr rfl)) pgs_nil)))) (fun _ _ _ _ _ => pts_one (pt_cmpR op_eq (pv 4) pe_str (nomark _))) (fun _ _ _ _ _ => (pv 3))) (pe_lst (pa_cons (pe_callB (call_len_seqK K) (by rfl) T.len (by decide +kernel) (pa_cons (pv 0) pa_nil)) pa_nil))))
      (pss_cons (ps_set (i := 2) sc_split_rows.nd rfl (by first | exact Or.inl rfl | exact Or.inr rfl) (pe_op op_cat (pe_lst (pa_cons pe_int pa_nil)) (pe_lc (own := [("at", 3)]) (by rfl) sc_split_rows.nd (pi_listK K (pe_slice (sl_listK K) (pv 1) po_none (po_some (pe_un un_neg pe_int)))) (blkOk_by (N := ["rows", "ends", "starts", "at", "row", "start", "end"]) (sc := (defScope s_split_rows)) (by decide +kernel)) (fun _ _ _ _ _ => (pg_name (i := 3) sc_split_rows.nd rfl (by first | exact Or.inl rfl | exact Or.inr rfl))) (fun _ _ _ _ _ => pts_nil) (fun _ _ _ _ _ => (pe_op op_add (pv 3) pe_int)))))
      (pss_one (ps_ret (pe_callTy (call_tuple_ofK K) (by rfl) T.tuple (by decide +kernel) (pa_cons (pe_lc (own := [("start", 5), ("end", 6)]) (by rfl) sc_split_rows.nd (pi_zip (by rfl) T.zip (pa_cons (pv 2) (pa_cons (pv 1) pa_nil))) (blkOk_by (N := ["rows", "ends", "starts", "at", "row", "start", "end"]) (sc := (defScope s_split_rows)) (by decide +kernel)) (fun _ _ _ _ _ => (pg_tupK K (n := 2) rfl (pgs_cons (pg_name (i := 5) sc_split_rows.nd rfl (by first | exact Or.inl rfl | exact Or.inr rfl)) (pgs_cons (pg_name (i := 6) sc_split_rows.nd rfl (by first | exact Or.inl rfl | exact Or.inr rfl)) pgs_nil)))) (fun _ _ _ _ _ => pts_nil) (fun _ _ _ _ _ => (pe_callTy (call_tuple_ofK K) (by rfl) T.tuple (by decide +kernel) (pa_cons (pe_slice (sl_tupAK K) (pv 0) (po_some (pv 5)) (po_some (pv 6))) pa_nil)))) pa_nil)))))), ?_⟩
  have lz' : (zs.map V.str).length ≤ 1000 := by rw [List.length_map]; exact lz
  refine ⟨_, rfl, rs, zs.map V.str, rfl, .inl (.inl hrs), fun D hD => ?_⟩
  refine lc_it (Un.walk_enumT (K := K) (a := rs) (xs := zs.map V.str)) (fun i HH => Same H HH ∧ HH D = some (.lst ((thAt zs i).map fun n : Nat => V.int n))) ⟨same_upd hD, upd_same⟩ (fun i HH _ p => .inl (.inl (p.1 _ _ hrs))) (fun i x HH HH' hi p y => ?_) (fun H1 p => ?_)
  · obtain ⟨sH, hDD⟩ := p
    obtain ⟨tp, xi, qi, rfl, nt, rfl, ex, eq⟩ := y
    obtain ⟨z, hz, rfl⟩ : ∃ z, zs[i]? = some z ∧ V.str z = qi := by simpa using eq
    cases ex
    have sT := same_upd (o := .tup [.int (i : Nat), .str z]) nt
    refine ⟨tp, _, rfl, .inl (.inl upd_same), rfl, _, _, rfl, _, _, rfl, rfl, rfl, _, rfl, rfl, _, rfl, ?_⟩
    by_cases e : V.str z = .str "then"
    · refine iteY e ⟨_, rfl, _, sT _ _ hDD, ?_, same_mut (sH.trans sT) hD, ?_⟩
      · rw [List.length_map]
        have := thAt_len zs i
        have : i < (zs.map V.str).length := hi
        exact Nat.lt_of_lt_of_le (show (thAt zs i).length < 1001 by omega) (by decide)
      · rw [upd_same, thAt_succ, if_pos (by rw [hz, V.str.inj e]), List.map_append]
        rfl
    · refine iteN e ⟨sH.trans sT, ?_⟩
      rw [thAt_succ, if_neg (fun h => e (by rw [hz] at h; rw [Option.some.inj h])), List.append_nil]
      exact sT _ _ hDD
  obtain ⟨s1, d1⟩ := p
  have d1 : H1 D = some (.lst ((thAt zs zs.length).map fun n : Nat => V.int n)) := by rw [List.length_map] at d1; exact d1
  have lt := thAt_len zs zs.length
  refine ⟨_, rfl, rs, _, rfl, .inr (.inl (.inl (s1 _ _ hrs))), (by show 1 ≤ sizeLine; decide), fun b nb => ?_⟩
  have sb := same_upd (o := .lst [.int ((zs.map V.str).length : Nat)]) nb
  refine ⟨D, b, _, _, rfl, rfl, sb _ _ d1, upd_same, ?_, fun e ne => ?_⟩
  · rw [List.length_map]
    exact Nat.le_trans (show (thAt zs zs.length).length + 1 ≤ 1001 by omega) (by decide)
  have se := same_upd (o := .lst (((thAt zs zs.length).map fun n : Nat => V.int n) ++ [.int ((zs.map V.str).length : Nat)])) ne
  have ee : (upd (upd H1 b (.lst [.int ((zs.map V.str).length : Nat)])) e (.lst (((thAt zs zs.length).map fun n : Nat => V.int n) ++ [.int ((zs.map V.str).length : Nat)]))) e = some (.lst ((endsM zs).map fun n : Nat => V.int n)) := by
    rw [upd_same, List.length_map]
    unfold endsM
    rw [List.map_append]
    rfl
  have s2 := (s1.trans sb).trans se
  dsimp only [gName]
  generalize upd (upd H1 b (.lst [.int ((zs.map V.str).length : Nat)])) e (.lst (((thAt zs zs.length).map fun n : Nat => V.int n) ++ [.int ((zs.map V.str).length : Nat)])) = H2 at *
  refine ⟨(by show 1 ≤ sizeLine; decide), fun z nz => ?_⟩
  have sz := same_upd (o := .lst [.int 0]) nz
  have ez : (upd H2 z (.lst [.int 0])) z = some (.lst [.int 0]) := upd_same
  have ee2 := sz _ _ ee
  have s3 := s2.trans sz
  generalize upd H2 z (.lst [.int 0]) = H3 at *
  refine ⟨_, rfl, _, rfl, _, rfl, e, _, rfl, .inl (.inl ee2), fun c nc => ?_⟩
  have ec : cutV ((endsM zs).map fun n : Nat => V.int n) none (some (-1)) = (thAt zs zs.length).map fun n : Nat => V.int n := by
    unfold endsM
    rw [List.map_append]
    exact cut_last _ _
  have sc := same_upd (o := .lst (cutV ((endsM zs).map fun n : Nat => V.int n) none (some (-1)))) nc
  have ecc : (upd H3 c (.lst (cutV ((endsM zs).map fun n : Nat => V.int n) none (some (-1))))) c = some (.lst ((thAt zs zs.length).map fun n : Nat => V.int n)) := by rw [upd_same, ec]
  have s4 := s3.trans sc
  have ez4 := sc _ _ ez
  have ee4 := sc _ _ ee2
  show (fun x H1 => _) (V.ref c) (upd H3 c (.lst (cutV ((endsM zs).map fun n : Nat => V.int n) none (some (-1)))))
  generalize upd H3 c (.lst (cutV ((endsM zs).map fun n : Nat => V.int n) none (some (-1)))) = H4 at *
  refine ⟨c, rfl, ⟨_, .inl (.inl ecc)⟩, fun D2 hD2 => ?_⟩
  refine lcW (walk_list (K := K) (a := c) (xs := (thAt zs zs.length).map fun n : Nat => V.int n)) (fun y => match y with | .int k => some (.int (k + 1)) | _ => none) (fun HH s => .inl (.inl (s _ _ ecc))) (by rw [List.length_map]; exact Nat.le_trans (show (thAt zs zs.length).length ≤ 1001 by omega) (by decide)) hD2 (fun i x HH hx _ => ?_) (fun H5 s5 d5 => ?_)
  · intro Q1 Q0 h1 h0
    obtain ⟨n, _, rfl⟩ : ∃ n, (thAt zs zs.length)[i]? = some n ∧ V.int (n : Nat) = x := by simpa using hx
    exact ⟨rfl, _, rfl, _, _, rfl, rfl, h1 _ _ rfl (Same.refl _)⟩
  have d5 : H5 D2 = some (.lst (((thAt zs zs.length).map (· + 1)).map fun n : Nat => V.int n)) := by
    rw [d5]
    congr 2
    generalize thAt zs zs.length = l
    induction l with
    | nil => rfl
    | cons a l ih =>
      rw [List.map_cons, List.map_cons, List.map_cons, List.filterMap_cons, ih]
      rfl
  refine ⟨z, D2, _, _, rfl, rfl, s5 _ _ ez4, d5, ?_, fun st nst => ?_⟩
  · rw [List.length_map, List.length_map]
    exact Nat.le_trans (show 1 + (thAt zs zs.length).length ≤ 1001 by omega) (by decide)
  have sst := same_upd (o := .lst ([.int 0] ++ ((thAt zs zs.length).map (· + 1)).map fun n : Nat => V.int n)) nst
  have est : (upd H5 st (.lst ([.int 0] ++ ((thAt zs zs.length).map (· + 1)).map fun n : Nat => V.int n))) st = some (.lst ((startsM zs).map fun n : Nat => V.int n)) := upd_same
  have ee6 := sst _ _ (s5 _ _ ee4)
  have s6 := (s4.trans s5).trans sst
  dsimp only [gName]
  generalize upd H5 st (.lst ([.int 0] ++ ((thAt zs zs.length).map (· + 1)).map fun n : Nat => V.int n)) = H6 at *
  -- zip
  refine ⟨_, rfl, _, rfl, st, e, _, _, rfl, .inl (.inl est), .inl (.inl ee6), fun D3 hD3 => ?_⟩
  have hrs6 := s6 _ _ hrs
  have l1 : (startsM zs).length = (endsM zs).length := by
    unfold startsM endsM
    rw [List.length_cons, List.length_map, List.length_append]
    rfl
  have l2 : (startsM zs).length ≤ 1001 := by
    rw [l1]
    unfold endsM
    rw [List.length_append]
    show (thAt zs zs.length).length + 1 ≤ 1001
    omega
  have lsec : (secsM zs).length = (startsM zs).length := by
    unfold secsM
    rw [List.length_map, List.length_zip, ← l1, Nat.min_self]
  refine lc_it (walk_zip (K := K) (a := st) (b := e) (xs := (startsM zs).map fun n : Nat => V.int n) (ys := (endsM zs).map fun n : Nat => V.int n) (n := (startsM zs).length) (by rw [List.length_map, List.length_map, ← l1, Nat.min_self])) (fun i HH => Same H6 HH ∧ ∃ ps : List Addr, HH D3 = some (.lst (ps.map V.ref)) ∧ ps.length = i ∧ ∀ (k : Nat) (p : Addr) (r : List Str), ps[k]? = some p → (secsM zs)[k]? = some r → HH p = some (.tup (r.map V.str))) ⟨same_upd hD3, [], upd_same, rfl, (fun k p r h => by simp at h)⟩ (fun i HH _ p => ⟨.inl (.inl (p.1 _ _ est)), .inl (.inl (p.1 _ _ ee6))⟩) (fun i x HH HH' hi p y => ?_) (fun H7 p => ?_)
  · obtain ⟨sH, ps, hps, lps, ok⟩ := p
    obtain ⟨tp, xi, yi, rfl, nt, rfl, ex, ey⟩ := y
    obtain ⟨a, ha, rfl⟩ : ∃ a, (startsM zs)[i]? = some a ∧ V.int (a : Nat) = xi := by simpa using ex
    obtain ⟨b, hb, rfl⟩ : ∃ b, (endsM zs)[i]? = some b ∧ V.int (b : Nat) = yi := by simpa using ey
    obtain ⟨hab, hbl⟩ := sec_bnd ha hb
    have sT := same_upd (o := .tup [.int (a : Nat), .int (b : Nat)]) nt
    refine ⟨tp, _, rfl, .inl (.inl upd_same), rfl, _, _, rfl, _, _, rfl, rfl, rfl, ?_⟩
    refine ⟨_, rfl, _, rfl, _, rfl, _, rfl, _, rfl, ?_⟩
    refine sl_any (ws := ((zs.drop a).take (b - a)).map V.str) (sT _ _ (sH _ _ hrs6)) (by rw [cut_mid hab (by rw [List.length_map]; exact hbl), List.map_take, List.map_drop]) (fun p H8 s8 hp8 hpo => ?_)
    have s68 := (sH.trans sT).trans s8
    have hsec : (secsM zs)[i]? = some ((zs.drop a).take (b - a)) := by
      unfold secsM
      rw [List.getElem?_map, show ((startsM zs).zip (endsM zs))[i]? = some (a, b) from List.getElem?_zip_eq_some.mpr ⟨ha, hb⟩]
      rfl
    refine ⟨p, _, rfl, .inr ⟨.inl (.inl hp8), ?_⟩⟩
    have hD8 := (sT.trans s8) _ _ hps
    have hpD : p ≠ D3 := fun z => by
      rw [z, hD8] at hp8
      cases hp8
    refine ⟨_, hD8, ?_, same_mut s68 hD3, ps ++ [p], ?_, by rw [List.length_append, lps]; rfl, fun k p' r h1 h2 => ?_⟩
    · rw [List.length_map, lps]
      have : i < (startsM zs).length := hi
      exact Nat.lt_of_lt_of_le (show i < 1001 by omega) (by decide)
    · rw [upd_same, List.map_append]
      rfl
    · rcases Nat.lt_or_ge k ps.length with hk | hk
      · rw [List.getElem?_append_left hk] at h1
        have h3 := (sT.trans s8) _ _ (ok k p' r h1 h2)
        rw [upd_ne (ne_of h3 hD8 (by intro z; cases z))]
        exact h3
      · rw [List.getElem?_append_right hk] at h1
        have hk0 : k - ps.length = 0 := by
          cases e0 : k - ps.length with
          | zero => rfl
          | succ m => rw [e0] at h1; simp at h1
        rw [hk0] at h1
        have e1 : p = p' := by simpa using h1
        have ek : k = i := by omega
        rw [ek, hsec] at h2
        rw [← e1, upd_ne hpD, hp8, Option.some.inj h2]
  obtain ⟨s7, ps, hps, lps, ok⟩ := p
  refine ⟨D3, _, rfl, .inl ⟨.inl (.inl hps), fun u nu => ?_⟩⟩
  have su := same_upd (o := .tup (ps.map V.ref)) nu
  refine q _ _ ((s6.trans s7).trans su) (.tup upd_same (by simp) (secs_dt (by rw [lps, lsec]) fun k p r h1 h2 => su _ _ (ok k p r h1 h2)))
end
end Lx

namespace Lx
open PySem PySem.Spec PyProof.Rows L2 Ub Ur
section
variable {P : Program} {w : World} {K : PySem.W.Frag} {mg : Str → Option Value} {base : Heap}
theorem sc_law_draw : FnScope ["_law_state", "_law_many", "_law_great", "_law_lesser", "_law_digit", "_law_own", "_law_mixed"] ["_law_state", "_law_many"] (defScope s_law_draw) := ⟨rfl, rfl, rfl, by decide +kernel, rfl, by decide +kernel, by decide +kernel⟩
theorem ok_law_draw {f : Addr} {fd : FuncData} {k : Nat} (F : FunD K "_law_draw" "_law_draw" (defArgs s_law_draw) (defBody s_law_draw) (defScope s_law_draw) [] [] f fd) (T : Tx K mg) : FnOk P w K mg base CX0 (k + 1) f fd ["_law_state", "_law_many"] sp_draw := by
  refine F.ok sc_law_draw (fun vs H Q E h => ?_) (fun cdv A outer s H vs Q E hr h => ?_)
  · obtain ⟨st, g, l, m, rfl, _⟩ := h
    rfl
  · obtain ⟨st, g, l, m, rfl, m0, m1, S, q⟩ := h
    have hu := hu_of hr
    refine ⟨_, PSs.nox (pss_cons (ps_augS (pv 0) pe_int (get_listK K) pe_int ip_add set_list)
      (pss_cons (ps_par (i := 2) (j := 3) (by rfl) sc_law_draw.nd rfl rfl (by decide) rfl rfl (pa_cons (pe_ix (ix_listK K) (pv 0) pe_int (fun _ _ => rfl)) (pa_cons (pe_ix (ix_listK K) (pv 0) pe_int (fun _ _ => rfl)) pa_nil)) (by rfl))
      (pss_cons (ps_while PassesOwn.never (PW.pt (pw_and (pt_truthK K (pv 2) (by intro _; rfl)) (pw_and1 (pt_cmpR op_eq (pe_ix (ix_listK K) (pv 2) pe_int (fun _ _ => rfl)) pe_int (nomark _)))))
        (pss_one (ps_expr (pe_bmK K PySem.F.plainAttrs_list PySem.F.slot_list_pop PySem.F.type_list_pop mt_popAt (pv 2) (pa_cons pe_int pa_nil)))))
      (pss_cons (ps_if (pt_truthK K (pv 2) (by intro _; rfl))
        (pss_cons (ps_set (i := 4) sc_law_draw.nd rfl (by first | exact Or.inl rfl | exact Or.inr rfl) (pe_op op_mod (pe_callTy call_int1 (by rfl) T.int (by decide +kernel) (pa_cons (pe_ix (ix_listK K) (pv 2) pe_int (fun _ _ => rfl)) pa_nil)) (pv 1)))
          (pss_cons (ps_asg (pe_op op_fdivW (pe_ix (ix_listK K) (pv 2) pe_int (fun _ _ => rfl)) (pv 1)) (pg_sub (pv 2) pe_int set_list))
          (pss_one (ps_ret (pv 4)))))
        pss_nil)
      (pss_cons (ps_set (i := 5) sc_law_draw.nd rfl (by first | exact Or.inl rfl | exact Or.inr rfl) (pe_ifExp (pt_truthK K (pv 3) (by intro _; rfl)) (pe_ix (ix_listK K) (pv 3) (pe_op op_mod (pe_callTy call_int1 (by rfl) T.int (by decide +kernel) (pa_cons (pe_ix (ix_listK K) (pv 0) pe_int (fun _ _ => rfl)) pa_nil)) (pe_callB (call_len_seqK K) (by rfl) T.len (by decide +kernel) (pa_cons (pv 3) pa_nil))) (fun _ _ => rfl)) pe_int))
      (pss_cons (ps_asg (pe_op op_mod (pe_callTy call_int1 (by rfl) T.int (by decide +kernel) (pa_cons (pe_op op_add (pe_op op_add (pe_op op_add (pe_op op_mul (pe_ix (ix_listK K) (pv 0) pe_int (fun _ _ => rfl)) pe_int) (pe_op op_mul (pv 5) pe_int)) (pe_op op_mul (pe_ix (ix_listK K) (pv 0) pe_int (fun _ _ => rfl)) pe_int)) pe_int) pa_nil)) pe_int) (pg_sub (pv 0) pe_int set_list))
      (pss_cons (ps_set (i := 6) sc_law_draw.nd rfl (by first | exact Or.inl rfl | exact Or.inr rfl) (pe_op op_mod (pe_callTy call_int1 (by rfl) T.int (by decide +kernel) (pa_cons (pe_op op_add (pe_op op_mul (pe_ix (ix_listK K) (pv 0) pe_int (fun _ _ => rfl)) (pe_ix (ix_listK K) (pv 0) pe_int (fun _ _ => rfl))) (pe_op op_mul (pe_ix (ix_listK K) (pv 0) pe_int (fun _ _ => rfl)) pe_int)) pa_nil)) pe_int))
      (pss_one (ps_ret (pe_op op_mod (pe_callTy call_int1 (by rfl) T.int (by decide +kernel) (pa_cons (pe_op op_fdivW (pv 6) pe_int) pa_nil)) (pv 1))))))))))), ?_⟩
    obtain ⟨⟨gs, ls, c, a, h1, h2, h3, lg, ll, a0, a1⟩, n1, n2, n3⟩ := S
    -- state[2] += 1
    refine ⟨.ref st, rfl, st, _, 2, .int c, rfl, rfl, .inl (.inl h1), by decide, rfl, c, 1, rfl, rfl, st, _, 2, 2, rfl, rfl, h1, rfl, ?_⟩
    have e1 : (upd H st (.lst [.ref g, .ref l, .int (c + 1), .int a])) st = some (.lst [.ref g, .ref l, .int (c + 1), .int a]) := upd_same
    -- great, lesser = state[0], state[1]
    refine ⟨.ref st, rfl, st, _, 0, .ref g, rfl, rfl, .inl (.inl e1), rfl, .ref st, rfl, st, _, 1, .ref l, rfl, rfl, .inl (.inl e1), rfl, .ref g, .ref l, rfl, ?_⟩
    -- while great and great[0] == 0
    refine ⟨fun n σ H1 => ∃ gs', n = gs'.length ∧ σ = [some (.ref st), some (.int m), some (.ref g), some (.ref l), none, none, none] ∧ DrI H H1 st g l gs' ls (c + 1) a, ⟨_, gs, rfl, rfl, e1, ?_, ?_, lg, ?_⟩, ?_⟩
    · rw [upd_ne n1.symm]; exact h2
    · rw [upd_ne n2.symm]; exact h3
    · intro b o e b1 _ _; rw [upd_ne b1]; exact e
    rintro n σ H1 ⟨gs', rfl, rfl, I⟩
    cases gs' with
    | nil =>
      refine ⟨.ref g, rfl, false, .inl ⟨_, .inl (.inl I.h2), rfl⟩, ?_⟩
      refine iteF ?_
      refine iteF ?_
      -- if great
      refine ⟨.ref g, rfl, false, .inl ⟨_, .inl (.inl I.h2), rfl⟩, iteF ?_⟩
      -- own
      dsimp only [tNext]
      refine asgS (fun v H' => H' = H1 ∧ ∃ o : Int, v = .int o) (fun Q' hQ' => ?_) ?_
      · cases ls with
        | nil => exact ⟨.ref l, rfl, false, .inl ⟨_, .inl (.inl I.h3), rfl⟩, iteF (hQ' _ _ ⟨rfl, 5, rfl⟩)⟩
        | cons y ys =>
          have h0 : (0 : Int) < (((y :: ys).map V.int).length : Int) := by rw [List.length_map, List.length_cons]; omega
          have h5 := Int.emod_nonneg (c + 1) (Int.ne_of_gt h0)
          have h6 := Int.emod_lt_of_pos (c + 1) h0
          obtain ⟨j, hj⟩ : ∃ j : Nat, (c + 1) % (((y :: ys).map V.int).length : Int) = (j : Int) := ⟨_, (Int.toNat_of_nonneg h5).symm⟩
          have hlt : j < (y :: ys).length := by
            rw [hj, List.length_map] at h6
            omega
          have hget : ((y :: ys).map V.int)[j]? = some (.int (y :: ys)[j]) := by
            rw [List.getElem?_map, List.getElem?_eq_getElem hlt]
            rfl
          refine ⟨.ref l, rfl, true, .inl ⟨_, .inl (.inl I.h3), rfl⟩, iteT ?_⟩
          refine ⟨.ref l, rfl, .ref st, rfl, st, _, 2, .int (c + 1), rfl, rfl, .inl (.inl I.h1), rfl, .inl ⟨_, rfl, .ref l, rfl, l, _, rfl, .inl (.inl (.inl I.h3)), _, _, rfl, rfl, h0, l, _, _, .int (y :: ys)[j], rfl, rfl, .inl (.inl I.h3), at_of hj hget, hQ' _ _ ⟨rfl, (y :: ys)[j], rfl⟩⟩⟩
      rintro v H' ⟨rfl, o, rfl⟩
      -- state[3] = ..
      refine ⟨.ref st, rfl, st, _, 3, .int a, rfl, rfl, .inl (.inl I.h1), rfl, a, 69621, rfl, rfl, mulR (by decide), .int o, rfl, o, 48271, rfl, rfl, mulR (by decide), _, _, rfl, rfl, .ref st, rfl, st, _, 2, .int (c + 1), rfl, rfl, .inl (.inl I.h1), rfl, _, _, rfl, rfl, mulR (by decide), _, _, rfl, rfl, _, _, rfl, rfl, .inl ⟨_, rfl, _, _, rfl, rfl, by show (0 : Int) < 2305843009213693951; decide, ?_⟩⟩
      dsimp only
      generalize ha' : (a * 69621 + o * 48271 + (c + 1) * 40014 + 7) % 2305843009213693951 = a'
      have b0 : 0 ≤ a' := by rw [← ha']; exact Int.emod_nonneg _ (by decide)
      have b1 : a' < 2305843009213693951 := by rw [← ha']; exact Int.emod_lt_of_pos _ (by decide)
      refine ⟨.ref st, rfl, st, _, 3, 3, rfl, rfl, I.h1, rfl, ?_⟩
      have e2 : (upd H' st (.lst [.ref g, .ref l, .int (c + 1), .int a'])) st = some (.lst [.ref g, .ref l, .int (c + 1), .int a']) := upd_same
      -- mixed
      refine ⟨.ref st, rfl, st, _, 3, .int a', rfl, rfl, .inl (.inl e2), rfl, .ref st, rfl, st, _, 3, .int a', rfl, rfl, .inl (.inl e2), rfl, a', a', rfl, rfl, mulR (by omega), .ref st, rfl, st, [.ref g, .ref l, .int (c + 1), .int a'], 2, .int (c + 1), rfl, rfl, .inl (.inl e2), rfl, _, _, rfl, rfl, mulR (by decide), _, _, rfl, rfl, .inl ⟨_, rfl, _, _, rfl, rfl, by show (0 : Int) < 2305843009213693921; decide, ?_⟩⟩
      -- return
      refine ⟨_, rfl, _, _, rfl, rfl, m100 (by decide) (by decide), .inl ⟨_, rfl, .int m, rfl, _, _, rfl, rfl, m0, ?_⟩⟩
      refine q _ _ (Int.emod_nonneg _ (Int.ne_of_gt m0)) (Int.emod_lt_of_pos _ m0) ⟨⟨[], ls, c + 1, a', e2, ?_, ?_, by decide, ll, b0, by omega⟩, n1, n2, n3⟩ ?_
      · rw [upd_ne n1.symm]; exact I.h2
      · rw [upd_ne n2.symm]; exact I.h3
      · intro b o e b1 b2 b3; rw [upd_ne b1]; exact I.kp b o e b1 b2 b3
    | cons z r =>
      refine ⟨.ref g, rfl, true, .inl ⟨_, .inl (.inl I.h2), rfl⟩, ?_⟩
      refine iteT ?_
      refine ⟨.ref g, rfl, g, _, 0, .int z, rfl, rfl, .inl (.inl I.h2), at0, rfl, _, rfl, ite2 (fun e => ?_) (fun e => ?_)⟩
      · -- great.pop(0)
        refine ⟨fun σ' H' => σ' = [some (.ref st), some (.int m), some (.ref g), some (.ref l), none, none, none] ∧ DrI H H' st g l r ls (c + 1) a, ?_, ?_⟩
        · rintro σ' H' ⟨rfl, I'⟩
          exact ⟨r.length, Nat.lt_succ_self _, r, rfl, rfl, I'⟩
        · refine ⟨.ref g, rfl, .inl ⟨rfl, _, .inl (.inl I.h2)⟩, g, _, 0, 0, .int z, rfl, rfl, I.h2, by decide, by decide, ?_, rfl, rfl, ⟨?_, ?_, ?_, ?_, ?_⟩⟩
          · show seqIndex? 0 ((z :: r).map V.int).length = some 0
            unfold seqIndex?
            simp
          · rw [upd_ne n1]; exact I.h1
          · exact upd_same
          · rw [upd_ne n3.symm]; exact I.h3
          · have := I.lg; rw [List.length_cons] at this; omega
          · intro b o e b1 b2 b3; rw [upd_ne b2]; exact I.kp b o e b1 b2 b3
      · -- if great
        refine ⟨.ref g, rfl, true, .inl ⟨_, .inl (.inl I.h2), rfl⟩, iteT ?_⟩
        refine ⟨.ref g, rfl, g, _, 0, .int z, rfl, rfl, .inl (.inl I.h2), at0, .inl ⟨_, rfl, .int m, rfl, _, _, rfl, rfl, m0, ?_⟩⟩
        refine ⟨.ref g, rfl, g, _, 0, .int z, rfl, rfl, .inl (.inl I.h2), at0, .int m, rfl, _, _, rfl, rfl, m100 m0 m1, .ref g, rfl, g, _, 0, 0, rfl, rfl, I.h2, ix0, ?_⟩
        refine ⟨_, rfl, ?_⟩
        refine q _ _ (Int.emod_nonneg _ (Int.ne_of_gt m0)) (Int.emod_lt_of_pos _ m0) ⟨⟨(z / m) :: r, ls, c + 1, a, ?_, upd_same, ?_, I.lg, ll, a0, a1⟩, n1, n2, n3⟩ ?_
        · rw [upd_ne n1]; exact I.h1
        · rw [upd_ne n3.symm]; exact I.h3
        · intro b o e b1 b2 b3; rw [upd_ne b2]; exact I.kp b o e b1 b2 b3
theorem sc_law_start : FnScope ["_law_script", "_law_cells", "_law_great", "_law_lesser", "_law_cell"] ["_law_script"] (defScope s_law_start) := ⟨rfl, rfl, rfl, by decide +kernel, rfl, by decide +kernel, by decide +kernel⟩
theorem ok_law_start {f : Addr} {fd : FuncData} {k : Nat} (F : FunD K "_law_start" "_law_start" (defArgs s_law_start) (defBody s_law_start) (defScope s_law_start) [] [] f fd) (T : Tx K mg) : FnOk P w K mg base CX0 (k + 1) f fd ["_law_script"] (sp_start K) := by
  refine F.ok sc_law_start (fun vs H Q E h => ?_) (fun cdv A outer s H vs Q E hr h => ?_)
  · obtain ⟨a, ns, rfl, _⟩ := h
    rfl
  · obtain ⟨a, ns, rfl, hS, hl, q⟩ := h
    refine ⟨_, PSs.nox (pss_cons (ps_setLc (i := 1) (own := [("_law_cell", 4)]) (by rfl) sc_law_start.nd rfl rfl (sw_true rfl rfl rfl (by decide +kernel)) (pi_listK K (pe_slice (sl_listK K) (pv 0) po_none (po_some pe_int))) (blkOk_by (N := ["_law_script", "_law_cells", "_law_great", "_law_lesser", "_law_cell"]) (sc := (defScope s_law_start)) (by decide +kernel)) (fun _ _ _ _ _ => (pg_name (i := 4) sc_law_start.nd rfl (by first | exact Or.inl rfl | exact Or.inr rfl))) (fun _ _ _ _ _ => pts_nil) (fun _ _ _ _ _ => (pe_callTy call_int1 (by rfl) T.int (by decide +kernel) (pa_cons (pv 4) pa_nil))))
      (pss_cons (ps_setLc (i := 2) (own := [("_law_cell", 4)]) (by rfl) sc_law_start.nd rfl rfl (sw_true rfl rfl rfl (by decide +kernel)) (pi_listK K (pv 1)) (blkOk_by (N := ["_law_script", "_law_cells", "_law_great", "_law_lesser", "_law_cell"]) (sc := (defScope s_law_start)) (by decide +kernel)) (fun _ _ _ _ _ => (pg_name (i := 4) sc_law_start.nd rfl (by first | exact Or.inl rfl | exact Or.inr rfl))) (fun _ _ _ _ _ => pts_one (pt_cmpR op_ge (pe_callB call_abs (by rfl) T.abs (by decide +kernel) (pa_cons (pv 4) pa_nil)) (pe_op op_pow pe_int pe_int) (nomark _))) (fun _ _ _ _ _ => (pe_callB call_abs (by rfl) T.abs (by decide +kernel) (pa_cons (pv 4) pa_nil))))
      (pss_cons (ps_setLc (i := 3) (own := [("_law_cell", 4)]) (by rfl) sc_law_start.nd rfl rfl (sw_true rfl rfl rfl (by decide +kernel)) (pi_listK K (pv 1)) (blkOk_by (N := ["_law_script", "_law_cells", "_law_great", "_law_lesser", "_law_cell"]) (sc := (defScope s_law_start)) (by decide +kernel)) (fun _ _ _ _ _ => (pg_name (i := 4) sc_law_start.nd rfl (by first | exact Or.inl rfl | exact Or.inr rfl))) (fun _ _ _ _ _ => pts_one (pt_cmpR op_lt (pe_callB call_abs (by rfl) T.abs (by decide +kernel) (pa_cons (pv 4) pa_nil)) (pe_op op_pow pe_int pe_int) (nomark _))) (fun _ _ _ _ _ => (pe_op op_add (pe_op op_mod (pe_callTy call_int1 (by rfl) T.int (by decide +kernel) (pa_cons (pv 4) pa_nil)) pe_int) pe_int)))
      (pss_one (ps_ret (pe_lst (pa_cons (pv 2) (pa_cons (pv 3) (pa_cons pe_int (pa_cons (pe_op op_add pe_int (pe_callB (call_len_seqK K) (by rfl) T.len (by decide +kernel) (pa_cons (pv 1) pa_nil))) pa_nil)))))))))), ?_⟩
    obtain ⟨ms, lm, _, em⟩ := cutV_ints ns none (some 63)
    -- cells
    refine ⟨.ref a, rfl, 63, rfl, a, _, rfl, hS, fun p hp => ?_⟩
    rw [em]
    have s0 := same_upd (o := .lst (ms.map V.int)) hp
    refine ⟨p, rfl, ⟨ms.map V.int, .inl (.inl upd_same)⟩, fun C hC => ?_⟩
    refine lcW (walk_list (xs := ms.map V.int)) (liftI fun i => some i) (fun H s => s.seq (.inl (.inl upd_same))) (small63 (by rw [List.length_map]; omega)) hC (fun i x H' hx s' => ?_) (fun H1 s1 d1 => ?_)
    · obtain ⟨z, hz, rfl⟩ := List.mem_map.mp (List.mem_of_getElem? hx)
      intro Q1 Q0 h1 h0
      exact ⟨rfl, _, rfl, .inl ⟨_, rfl, h1 _ _ rfl (Same.refl _)⟩⟩
    rw [fm_lift] at d1
    generalize hcs : (ms.filterMap fun i => some i) = cs at d1
    have lc : cs.length ≤ 63 := by
      have := List.length_filterMap_le (fun i : Int => some i) ms
      rw [← hcs]; omega
    -- great
    refine ⟨_, rfl, C, rfl, ⟨_, .inl (.inl d1)⟩, fun g hg => ?_⟩
    refine lcW (walk_list (xs := cs.map V.int)) (liftI fun i => if (1000000000000000000 : Int) ≤ absI i then some (absI i) else none) (fun H s => s.seq (.inl (.inl d1))) (small63 (by rw [List.length_map]; omega)) hg (fun i x H' hx s' => ?_) (fun H2 s2 d2 => ?_)
    · obtain ⟨z, hz, rfl⟩ := List.mem_map.mp (List.mem_of_getElem? hx)
      intro Q1 Q0 h1 h0
      refine ⟨rfl, _, rfl, z, rfl, 10, 18, rfl, rfl, ⟨by decide, by decide, by decide⟩, _, _, rfl, rfl, _, rfl, ?_⟩
      by_cases hge : (1000000000000000000 : Int) ≤ absI z
      · refine ite2 (fun _ => ?_) (fun e => ?_)
        · exact ⟨_, rfl, z, rfl, h1 _ _ (by show (if (1000000000000000000 : Int) ≤ absI z then some (absI z) else none).map V.int = _; rw [if_pos hge]; rfl) (Same.refl _)⟩
        · exact absurd (decide_eq_true hge) e
      · refine ite2 (fun e => ?_) (fun e => ?_)
        · exact absurd (of_decide_eq_true e) hge
        · exact h0 _ (by show (if (1000000000000000000 : Int) ≤ absI z then some (absI z) else none).map V.int = _; rw [if_neg hge]; rfl) (Same.refl _)
    rw [fm_lift] at d2
    generalize hgs : (cs.filterMap fun i => if (1000000000000000000 : Int) ≤ absI i then some (absI i) else none) = gs at d2
    have lg : gs.length ≤ 63 := by
      have := List.length_filterMap_le (fun i : Int => if (1000000000000000000 : Int) ≤ absI i then some (absI i) else none) cs
      rw [← hgs]; omega
    -- lesser
    refine ⟨_, rfl, C, rfl, ⟨_, .inl (.inl (s2 _ _ d1))⟩, fun l hl' => ?_⟩
    refine lcW (walk_list (xs := cs.map V.int)) (liftI fun i => if absI i < (1000000000000000000 : Int) then some (i % 2147483587 + 1) else none) (fun H s => s.seq (.inl (.inl (s2 _ _ d1)))) (small63 (by rw [List.length_map]; omega)) hl' (fun i x H' hx s' => ?_) (fun H3 s3 d3 => ?_)
    · obtain ⟨z, hz, rfl⟩ := List.mem_map.mp (List.mem_of_getElem? hx)
      intro Q1 Q0 h1 h0
      refine ⟨rfl, _, rfl, z, rfl, 10, 18, rfl, rfl, ⟨by decide, by decide, by decide⟩, _, _, rfl, rfl, _, rfl, ?_⟩
      by_cases hge : absI z < (1000000000000000000 : Int)
      · refine ite2 (fun _ => ?_) (fun e => ?_)
        · refine ⟨_, rfl, .inl ⟨_, rfl, _, _, rfl, rfl, by show (0 : Int) < 2147483587; decide, _, _, rfl, rfl, h1 _ _ ?_ (Same.refl _)⟩⟩
          show (if absI z < (1000000000000000000 : Int) then some (z % 2147483587 + 1) else none).map V.int = _
          rw [if_pos hge]; rfl
        · exact absurd (decide_eq_true hge) e
      · refine ite2 (fun e => ?_) (fun e => ?_)
        · exact absurd (of_decide_eq_true e) hge
        · exact h0 _ (by show (if absI z < (1000000000000000000 : Int) then some (z % 2147483587 + 1) else none).map V.int = _; rw [if_neg hge]; rfl) (Same.refl _)
    rw [fm_lift] at d3
    generalize hls : (cs.filterMap fun i => if absI i < (1000000000000000000 : Int) then some (i % 2147483587 + 1) else none) = ls at d3
    have ll : ls.length ≤ 63 := by
      have := List.length_filterMap_le (fun i : Int => if absI i < (1000000000000000000 : Int) then some (i % 2147483587 + 1) else none) cs
      rw [← hls]; omega
    -- return
    refine ⟨_, rfl, _, rfl, _, rfl, C, _, rfl, .inl (.inl (.inl (s3 _ _ (s2 _ _ d1)))), _, _, rfl, rfl, (by show 4 ≤ sizeLine; decide), fun st hst => ?_⟩
    have f1 : H1 st = none := s2.free (s3.free hst)
    have d2' := s3 _ _ d2
    refine q st g l _ (s0.free (s1.free f1)) (s0.free (s1.free hg)) (s0.free (s1.free (s2.free hl'))) ⟨⟨gs, ls, 0, _, upd_same, ?_, ?_, lg, ll, ?_, ?_⟩, (ne_of_none d2' hst).symm, (ne_of_none d3 hst).symm, ne_of_none d2 hl'⟩ ?_
    · rw [upd_ne (ne_of_none d2' hst)]; exact d2'
    · rw [upd_ne (ne_of_none d3 hst)]; exact d3
    · show (0 : Int) ≤ 17 + ((cs.map V.int).length : Int); omega
    · show (17 : Int) + ((cs.map V.int).length : Int) < 4611686018427387904; rw [List.length_map]; omega
    · exact (((s0.trans s1).trans s2).trans s3).trans (same_upd hst)
theorem sc_law_of : FnScope ["_law_state", "_law_some"] ["_law_state", "_law_some"] (defScope s_law_of) := ⟨rfl, rfl, rfl, by decide +kernel, rfl, by decide +kernel, by decide +kernel⟩
theorem ok_law_of {f : Addr} {fd : FuncData} (F : FunD K "_law_of" "_law_of" (defArgs s_law_of) (defBody s_law_of) (defScope s_law_of) [] [] f fd) (T : Tx K mg) (c_law_draw : Cal P w K mg base 1 "_law_draw" ["_law_state", "_law_many"] sp_draw) : FnOk P w K mg base CX0 2 f fd ["_law_state", "_law_some"] sp_of := by
  refine F.ok sc_law_of (fun vs H Q E h => ?_) (fun cdv A outer s H vs Q E hr h => ?_)
  · obtain ⟨st, g, l, p, xs, rfl, _⟩ := h
    rfl
  · obtain ⟨st, g, l, p, xs, rfl, hp, n1, n2, n3, h0, hz, S, q⟩ := h
    refine ⟨_, PSs.nox (pss_one (ps_ret (pe_ix (ix_listK K) (pv 1) (pe_cal c_law_draw (hr.mono (by omega)) (by rfl) (pa_cons (pv 0) (pa_cons (pe_callB (call_len_seqK K) (by rfl) T.len (by decide +kernel) (pa_cons (pv 1) pa_nil)) pa_nil))) (fun _ _ => rfl)))), ?_⟩
    refine ⟨_, rfl, _, rfl, _, rfl, p, xs, rfl, .inl (.inl (.inl hp)), st, g, l, _, rfl, ?_, ?_, S, fun d H' d0 d1 S' k => ?_⟩
    · have : 0 < xs.length := List.length_pos_iff.mpr h0
      omega
    · omega
    · have hp' := k _ _ hp n1 n2 n3
      obtain ⟨j, rfl⟩ : ∃ j : Nat, d = (j : Int) := ⟨d.toNat, by omega⟩
      have hj : j < xs.length := by omega
      exact ixl hp' (atI_nat (List.getElem?_eq_getElem hj)) (q _ _ (List.getElem_mem hj) S' k)
end
end Lx

namespace Lx
open PySem PySem.Spec PyProof.Rows L2 Ub Ur
section
variable {P : Program} {w : World} {K : PySem.W.Frag} {mg : Str → Option Value} {base : Heap}
theorem sc_is_word : FnScope ["text", "letter"] ["text"] (defScope s_is_word) := ⟨rfl, rfl, rfl, by decide +kernel, rfl, by decide +kernel, by decide +kernel⟩
theorem ok_is_word {f : Addr} {fd : FuncData} (F : FunD K "is_word" "is_word" (defArgs s_is_word) (defBody s_is_word) (defScope s_is_word) [] [] f fd) (T : Tx K mg) : FnOk P w K mg base CX0 1 f fd ["text"] (sp_is_word K) := by
  refine F.ok sc_is_word (fun vs H Q E h => ?_) (fun cdv A outer s H vs Q E hr h => ?_)
  · obtain ⟨x, rfl, _⟩ := h
    rfl
  · obtain ⟨x, rfl, h⟩ := h
    refine ⟨_, PSs.nox (pss_cons (ps_if (PW.pt (pw_or (pt_not (pt_val (pe_callB (call_isiK' K) (by rfl) T.isinstance (by decide +kernel) (pa_cons (pv 0) (pa_cons (pe_bltn (v := .ty "str") (by rfl) T.str (by decide +kernel) rfl) pa_nil))))) (pw_or1 (pt_not (pt_chain op_le op_le pe_int (pe_callB call_len_str (by rfl) T.len (by decide +kernel) (pa_cons (pv 0) pa_nil)) pe_int)))))
        (pss_one (ps_ret pe_bl))
        pss_nil)
      (pss_one (ps_ret (pe_and (pe_callB (cr_allK K rfl) (by rfl) T.all (by decide +kernel) (pa_cons (pe_lc (own := [("letter", 1)]) (by rfl) sc_is_word.nd (pi_str (pv 0)) (blkOk_by (N := ["text", "letter"]) (sc := (defScope s_is_word)) (by decide +kernel)) (fun _ _ _ _ _ => (pg_name (i := 1) sc_is_word.nd rfl (by first | exact Or.inl rfl | exact Or.inr rfl))) (fun _ _ _ _ _ => pts_nil) (fun _ _ _ _ _ => (pe_cmpR op_in_sign (pv 1) (pe_globS (by rfl) T.c_LETTERS) (by rfl)))) pa_nil)) (pe_one (pe_cmpR (op_notIn_seqK K) (pv 0) (pe_globR (by rfl) T.g_KEPT_WORDS) (by rfl))))))), ?_⟩
    rcases h with ⟨z, rfl, hz, q⟩ | ⟨⟨t, ht, hk⟩, q⟩
    · refine ⟨_, rfl, _, _, _, _, true, rfl, .ty "str", .base (.str z), kit_ty (by decide +kernel), true, rfl, ?_⟩
      refine iteF ?_
      refine ⟨_, rfl, z, rfl, sz4 hz, _, _, rfl, rfl, _, rfl, ?_⟩
      have el : z.length = z.cps.toList.length := by simp [Str.length]
      by_cases h1 : 1 ≤ z.length
      · refine iteY (by omega) ?_
        refine ⟨_, _, rfl, rfl, _, rfl, ?_⟩
        by_cases h8 : z.length ≤ 8
        · refine iteNN (by omega) ?_
          have e1 : decide (1 ≤ z.length) = true := decide_eq_true h1
          have e2 : decide (z.length ≤ 8) = true := decide_eq_true h8
          have ew : isWord z = (z.cps.toList.all isLet && !inV (.str z) keptV) := by
            unfold isWord
            rw [e1, e2]
            rfl
          rw [ew] at q
          refine ⟨_, rfl, z, rfl, fun D hD => ?_⟩
          refine lcW (walk_strV (z := z)) (liftS fun c => some (.bl (isLet c))) (fun _ _ => trivial) (sz4 (by rw [List.length_map]; omega)) hD (fun i x H' hx s' => ?_) (fun H1 s1 d1 => ?_)
          · obtain ⟨c, hc, rfl⟩ := List.mem_map.mp (List.mem_of_getElem? hx)
            intro Q1 Q0 h1 h0
            exact ⟨rfl, _, rfl, c, letters, rfl, rfl, h1 _ _ rfl (Same.refl _)⟩
          · rw [fm_liftS] at d1
            have eb : (z.cps.toList.filterMap fun c => some (V.bl (isLet c))) = (z.cps.toList.map isLet).map V.bl := by
              rw [List.filterMap_eq_map', List.map_map]
              rfl
            rw [eb] at d1
            refine ⟨D, _, rfl, .inl (.inl d1), _, rfl, ?_⟩
            have ea : (z.cps.toList.map isLet).all id = z.cps.toList.all isLet := by rw [List.all_map]; rfl
            refine iteE ea (fun e => ?_) (fun e => ?_)
            · rw [e] at q
              exact ⟨_, rfl, _, keptV, rfl, .inr (T.t_KEPT_WORDS _), rfl, kept_flat, q _ s1⟩
            · rw [e] at q
              exact q _ s1
        · refine iteNY (by omega) ?_
          have e2 : decide (z.length ≤ 8) = false := decide_eq_false h8
          have ew : isWord z = false := by
            unfold isWord
            rw [e2]
            simp
          rw [ew] at q
          exact q _ (Same.refl _)
      · refine iteN (by omega) ?_
        have e2 : decide (1 ≤ z.length) = false := decide_eq_false h1
        have ew : isWord z = false := by
          unfold isWord
          rw [e2]
          simp
        rw [ew] at q
        refine ⟨_, rfl, ?_⟩
        exact q _ (Same.refl _)
    · refine ⟨_, rfl, _, _, _, _, false, rfl, .ty "str", ht, kit_ty hk, false, rfl, ?_⟩
      exact q _ (Same.refl _)
theorem sc_law_word : FnScope ["_law_state", "_law_taken", "_law_letters", "_law_kept", "_law_many", "_law_drawn", "_law_ways", "_law_turn", "_law_letter", "_law_way"] ["_law_state", "_law_taken"] (defScope s_law_word) := ⟨rfl, rfl, rfl, by decide +kernel, rfl, by decide +kernel, by decide +kernel⟩
theorem ok_law_word {f : Addr} {fd : FuncData} (F : FunD K "_law_word" "_law_word" (defArgs s_law_word) (defBody s_law_word) (defScope s_law_word) [] [] f fd) (T : Tx K mg) (c_law_draw : Cal P w K mg base 1 "_law_draw" ["_law_state", "_law_many"] sp_draw) : FnOk P w K mg base CX0 2 f fd ["_law_state", "_law_taken"] sp_word := by
  refine F.ok sc_law_word (fun vs H Q E h => ?_) (fun cdv A outer s H vs Q E hr h => ?_)
  · obtain ⟨st, g, l, t, taken, rfl, _⟩ := h
    rfl
  · obtain ⟨st, g, l, t, taken, rfl, ht, t1, t2, t3, lt, S, q⟩ := h
    refine ⟨_, PSs.nox (pss_cons (ps_set (i := 2) sc_law_word.nd rfl (by first | exact Or.inl rfl | exact Or.inr rfl) pe_str)
      (pss_cons (ps_set (i := 3) sc_law_word.nd rfl (by first | exact Or.inl rfl | exact Or.inr rfl) (pe_lst (pa_cons pe_str (pa_cons pe_str (pa_cons pe_str (pa_cons pe_str (pa_cons pe_str (pa_cons pe_str (pa_cons pe_str (pa_cons pe_str (pa_cons pe_str pa_nil)))))))))))
      (pss_cons (ps_set (i := 4) sc_law_word.nd rfl (by first | exact Or.inl rfl | exact Or.inr rfl) (pe_op op_add pe_int (pe_cal c_law_draw (hr.mono (by omega)) (by rfl) (pa_cons (pv 0) (pa_cons pe_int pa_nil)))))
      (pss_cons (ps_set (i := 5) sc_law_word.nd rfl (by first | exact Or.inl rfl | exact Or.inr rfl) (pe_join pe_str (pe_lc (own := [("_law_turn", 7)]) (by rfl) sc_law_word.nd (pi_range1 (by rfl) T.range (pa_cons (pv 4) pa_nil)) (blkOk_by (N := ["_law_state", "_law_taken", "_law_letters", "_law_kept", "_law_many", "_law_drawn", "_law_ways", "_law_turn", "_law_letter", "_law_way"]) (sc := (defScope s_law_word)) (by decide +kernel)) (fun _ _ _ _ _ => (pg_name (i := 7) sc_law_word.nd rfl (by first | exact Or.inl rfl | exact Or.inr rfl))) (fun _ _ _ _ _ => pts_nil) (fun _ _ _ _ _ => (pe_ix ix_str (pv 2) (pe_cal c_law_draw (hr.mono (by omega)) (by rfl) (pa_cons (pv 0) (pa_cons pe_int pa_nil))) (fun _ _ => rfl))))))
      (pss_cons (ps_set (i := 6) sc_law_word.nd rfl (by first | exact Or.inl rfl | exact Or.inr rfl) (pe_op op_cat (pe_lst (pa_cons (pv 5) pa_nil)) (pe_lc (own := [("_law_letter", 8)]) (by rfl) sc_law_word.nd (pi_str (pv 2)) (blkOk_by (N := ["_law_state", "_law_taken", "_law_letters", "_law_kept", "_law_many", "_law_drawn", "_law_ways", "_law_turn", "_law_letter", "_law_way"]) (sc := (defScope s_law_word)) (by decide +kernel)) (fun _ _ _ _ _ => (pg_name (i := 8) sc_law_word.nd rfl (by first | exact Or.inl rfl | exact Or.inr rfl))) (fun _ _ _ _ _ => pts_nil) (fun _ _ _ _ _ => (pe_op op_add_str (pe_slice sl_str (pv 5) po_none (po_some pe_int)) (pv 8))))))
      (pss_one (ps_ret (pe_ix (ix_listK K) (pe_lc (own := [("_law_way", 9)]) (by rfl) sc_law_word.nd (pi_listK K (pv 6)) (blkOk_by (N := ["_law_state", "_law_taken", "_law_letters", "_law_kept", "_law_many", "_law_drawn", "_law_ways", "_law_turn", "_law_letter", "_law_way"]) (sc := (defScope s_law_word)) (by decide +kernel)) (fun _ _ _ _ _ => (pg_name (i := 9) sc_law_word.nd rfl (by first | exact Or.inl rfl | exact Or.inr rfl))) (fun _ _ _ _ _ => pts_one (PW.pt (pw_and (pt_cmpR (op_notIn_seqK K) (pv 9) (pv 1) (by rfl)) (pw_and1 (pt_cmpR (op_notIn_seqK K) (pv 9) (pv 3) (by rfl)))))) (fun _ _ _ _ _ => (pv 9))) pe_int (fun _ _ => rfl))))))))), ?_⟩
    -- letters, kept
    refine ⟨(by show 9 ≤ sizeLine; decide), fun k hk => ?_⟩
    have sk := same_upd (o := .lst keptV) hk
    have ek : (upd H k (.lst keptV)) k = some (.lst keptV) := upd_same
    obtain ⟨k1, k2, k3⟩ := S.ne hk
    have S1 := S.same sk
    -- many
    refine ⟨_, rfl, st, g, l, 8, rfl, by decide, by decide, S1, fun d H1 d0 d1 S2 p1 => ?_⟩
    refine ⟨_, _, rfl, rfl, ?_⟩
    obtain ⟨n, rfl⟩ : ∃ n : Nat, d = (n : Int) := ⟨d.toNat, by omega⟩
    have hn : n < 8 := by omega
    have en : (1 + (n : Int)).toNat = n + 1 := by omega
    -- drawn
    refine ⟨⟨_, rfl⟩, _, rfl, _, rfl, by omega, by omega, fun D hD => ?_⟩
    rw [en]
    obtain ⟨D1, D2, D3⟩ := S2.ne hD
    refine lc_range (fun i H2 => StAt H2 st g l ∧ Kp st g l H1 H2 ∧ ∃ ws : List Str, H2 D = some (.lst (ws.map V.str)) ∧ ws.length = i ∧ ∀ x ∈ ws, x.length = 1 ∧ Low x) ?_ (fun i H2 hi hp => ?_) (fun H2 hp => ?_)
    · exact ⟨S2.same (same_upd hD), Kp.of (same_upd hD), [], upd_same, rfl, fun _ h => nomatch h⟩
    · obtain ⟨Sx, px, ws, hD2, lw, hw⟩ := hp
      refine ⟨rfl, _, rfl, _, rfl, st, g, l, 26, rfl, by decide, by decide, Sx, fun d H3 d0 d1 S3 p3 => ?_⟩
      obtain ⟨j, rfl⟩ : ∃ j : Nat, d = (j : Int) := ⟨d.toNat, by omega⟩
      have hj : j < letters.cps.toList.length := by rw [lets_len]; omega
      refine ⟨letters, _, _, rfl, rfl, (by decide +kernel), atI_nat (List.getElem?_eq_getElem hj), ?_⟩
      have hD3 := p3 _ _ hD2 D1 D2 D3
      refine ⟨_, hD3, ?_, ?_, ?_, ws ++ [⟨#[letters.cps.toList[j]]⟩], ?_, ?_, ?_⟩
      · rw [List.length_map]
        exact small1000 (by omega)
      · obtain ⟨⟨gs, ls, c, a, h1, h2, h3, r⟩, n1, n2, n3⟩ := S3
        exact ⟨⟨gs, ls, c, a, by rw [upd_ne D1.symm]; exact h1, by rw [upd_ne D2.symm]; exact h2, by rw [upd_ne D3.symm]; exact h3, r⟩, n1, n2, n3⟩
      · intro b o e b1 b2 b3
        rw [upd_ne (ne_of_none e hD)]
        exact p3 _ _ (px _ _ e b1 b2 b3) b1 b2 b3
      · rw [upd_same, List.map_append]
        rfl
      · rw [List.length_append, lw]; rfl
      · intro x hx
        rcases List.mem_append.mp hx with hx | hx
        · exact hw x hx
        · have e : x = ⟨#[letters.cps.toList[j]]⟩ := by simpa using hx
          subst e
          refine ⟨rfl, fun c hc => ?_⟩
          have e2 : c = letters.cps.toList[j] := by simpa using hc
          rw [e2]
          exact decide_eq_true (List.getElem_mem hj)
    obtain ⟨Sx, px, ws, hD2, lw, hw⟩ := hp
    have slen : (ws.map (·.length)).sum = ws.length := by
      clear hD2 lw
      induction ws with
      | nil => rfl
      | cons x r ih =>
        rw [List.map_cons, List.sum_cons, ih fun y hy => hw y (List.mem_cons_of_mem _ hy), (hw x List.mem_cons_self).1, List.length_cons]
        omega
    refine ⟨"", D, ws, rfl, rfl, .inl (.inl (.inl hD2)), ?_, ?_⟩
    · rw [slen, show (("" : Str)).length = 0 by decide +kernel]
      omega
    rw [TL.join_eq]
    have lowz : Low (Str.join "" ws) := fun c hc => by
      rw [join_cps] at hc
      obtain ⟨x, hx, hcx⟩ := List.mem_flatMap.mp hc
      exact (hw x hx).2 c hcx
    have lenz : (Str.join "" ws).length = n + 1 := by
      rw [← len_toList, join_cps, List.length_flatMap]
      have : (ws.map fun w => w.cps.toList.length) = ws.map (·.length) := List.map_congr_left fun x _ => len_toList x
      rw [this, slen, lw]
    generalize Str.join "" ws = z at *
    -- ways
    refine ⟨_, rfl, (by show 1 ≤ sizeLine; decide), fun e1 ne1 => ?_⟩
    have se := same_upd (o := .lst [.str z]) ne1
    have he1 : (upd H2 e1 (.lst [.str z])) e1 = some (.lst [.str z]) := upd_same
    generalize upd H2 e1 (.lst [.str z]) = H3 at *
    refine ⟨_, rfl, letters, rfl, fun e2 ne2 => ?_⟩
    refine lcW (walk_strV (z := letters)) (liftS fun c => some (.str (way z c))) (fun _ _ => trivial) (sz4 (by rw [List.length_map, lets_len]; decide)) ne2 (fun i x H' hx s' => ?_) (fun H4 s4 d4 => ?_)
    · obtain ⟨c, hc, rfl⟩ := List.mem_map.mp (List.mem_of_getElem? hx)
      intro Q1 Q0 h1 h0
      refine ⟨rfl, _, rfl, 7, rfl, z, rfl, sz4 (by omega), _, rfl, _, _, rfl, rfl, ?_, h1 _ _ rfl (Same.refl _)⟩
      have h7 := cut_7 z
      have e1 : ((⟨#[c]⟩ : Str)).length = 1 := rfl
      rw [e1]
      exact sz4 (by omega)
    rw [fm_liftS] at d4
    have ew : (letters.cps.toList.filterMap fun c => some (V.str (way z c))) = (letters.cps.toList.map (way z)).map V.str := by
      rw [List.filterMap_eq_map', List.map_map]
      rfl
    rw [ew] at d4
    refine ⟨e1, e2, _, _, rfl, rfl, s4 _ _ he1, d4, ?_, fun u nu => ?_⟩
    · rw [List.length_map, List.length_map, lets_len]
      show 1 + 26 ≤ sizeLine
      decide
    have su := same_upd (o := .lst ([.str z] ++ (letters.cps.toList.map (way z)).map V.str)) nu
    have hu : (upd H4 u (.lst ([.str z] ++ (letters.cps.toList.map (way z)).map V.str))) u = some (.lst ((ways z).map V.str)) := upd_same
    generalize upd H4 u (.lst ([.str z] ++ (letters.cps.toList.map (way z)).map V.str)) = H5 at *
    -- return
    have s25 : Same H2 H5 := (se.trans s4).trans su
    have kk : Kp st g l H H5 := (((Kp.of sk).trans p1).trans px).trans (Kp.of s25)
    have ht5 : H5 t = some (.lst (taken.map V.str)) := kk _ _ ht t1 t2 t3
    have hk5 : H5 k = some (.lst keptV) := s25 _ _ (px _ _ (p1 _ _ ek k1 k2 k3) k1 k2 k3)
    refine ⟨_, rfl, u, rfl, ⟨_, .inl (.inl hu)⟩, fun v nv => ?_⟩
    refine lcW (walk_list (xs := (ways z).map V.str)) (fun x => match x with | .str y => if y ∉ taken ∧ y ∉ kept then some (.str y) else none | _ => none) (fun H s => s.seq (.inl (.inl hu))) (sz4 (by rw [List.length_map]; unfold ways; rw [List.length_cons, List.length_map, lets_len]; decide)) nv (fun i x H' hx s' => ?_) (fun H6 s6 d6 => ?_)
    · obtain ⟨y, hy, rfl⟩ := List.mem_map.mp (List.mem_of_getElem? hx)
      intro Q1 Q0 h1 h0
      refine ⟨rfl, _, rfl, _, rfl, t, _, rfl, .inl (.inl (.inl (s' _ _ ht5))), rfl, flat_strs _, _, rfl, ?_⟩
      refine iteE (c := !decide (y ∈ taken)) (by show (!inV (.str y) (taken.map V.str)) = _; rw [inV_str]) (fun e => ?_) (fun e => ?_)
      · have ey : y ∉ taken := by simpa using e
        refine ⟨_, rfl, _, rfl, k, _, rfl, .inl (.inl (.inl (s' _ _ hk5))), rfl, kept_flat, _, rfl, ?_⟩
        refine iteE (c := !decide (y ∈ kept)) (by show (!inV (.str y) keptV) = _; unfold keptV; rw [inV_str]) (fun e2 => ?_) (fun e2 => ?_)
        · have ey2 : y ∉ kept := by simpa using e2
          exact ⟨_, rfl, h1 _ _ (by show (if y ∉ taken ∧ y ∉ kept then some (V.str y) else none) = _; rw [if_pos ⟨ey, ey2⟩]) (Same.refl _)⟩
        · have ey2 : y ∈ kept := by simpa using e2
          exact h0 _ (by show (if y ∉ taken ∧ y ∉ kept then some (V.str y) else none) = _; rw [if_neg fun z => z.2 ey2]) (Same.refl _)
      · have ey : y ∈ taken := by simpa using e
        exact h0 _ (by show (if y ∉ taken ∧ y ∉ kept then some (V.str y) else none) = _; rw [if_neg fun z => z.1 ey]) (Same.refl _)
    have good : ∀ x ∈ ((ways z).map V.str).filterMap (fun x => match x with | .str y => if y ∉ taken ∧ y ∉ kept then some (V.str y) else none | _ => none), ∃ y, x = .str y ∧ isWord y = true ∧ y ∉ taken := fun x hx => by
      obtain ⟨a, ha, e⟩ := List.mem_filterMap.mp hx
      obtain ⟨y, hy, rfl⟩ := List.mem_map.mp ha
      have e2 : (if y ∉ taken ∧ y ∉ kept then some (V.str y) else none) = some x := e
      by_cases hc : y ∉ taken ∧ y ∉ kept
      · rw [if_pos hc] at e2
        refine ⟨y, (Option.some.inj e2).symm, isWord_iff.mpr ?_, hc.1⟩
        unfold ways at hy
        rcases List.mem_cons.mp hy with rfl | hy
        · exact ⟨by omega, by omega, lowz, hc.2⟩
        · obtain ⟨c, hcl, rfl⟩ := List.mem_map.mp hy
          exact ⟨(way_len z c).1, (way_len z c).2, way_low lowz (decide_eq_true hcl), hc.2⟩
      · rw [if_neg hc] at e2
        cases e2
    obtain ⟨c, hc, hb⟩ := ways_ex z (taken ++ kept) (by rw [List.length_append]; have : kept.length = 9 := rfl; omega)
    have hin : V.str (way z c) ∈ ((ways z).map V.str).filterMap (fun x => match x with | .str y => if y ∉ taken ∧ y ∉ kept then some (V.str y) else none | _ => none) := by
      refine List.mem_filterMap.mpr ⟨V.str (way z c), List.mem_map.mpr ⟨_, List.mem_cons_of_mem _ (List.mem_map.mpr ⟨c, hc, rfl⟩), rfl⟩, ?_⟩
      show (if way z c ∉ taken ∧ way z c ∉ kept then some (V.str (way z c)) else none) = _
      rw [if_pos ⟨fun h => hb (List.mem_append_left _ h), fun h => hb (List.mem_append_right _ h)⟩]
    generalize ((ways z).map V.str).filterMap (fun x => match x with | .str y => if y ∉ taken ∧ y ∉ kept then some (V.str y) else none | _ => none) = L at *
    cases L with
    | nil => cases hin
    | cons x r =>
      obtain ⟨y, rfl, hy, hyt⟩ := good x List.mem_cons_self
      exact ixl d6 at0 (q y H6 hy hyt (((Sx.same s25).same s6)) (kk.trans (Kp.of s6)))
end
end Lx

namespace Lx
open PySem PySem.Spec PyProof.Rows L2 Ub
section
variable {P : Program} {w : World} {K : PySem.W.Frag} {mg : Str → Option Value} {base : Heap}
theorem sc_records_of : FnScope ["tree", "word", "field"] ["tree"] (defScope s_records_of) := ⟨rfl, rfl, rfl, by decide +kernel, rfl, by decide +kernel, by decide +kernel⟩
theorem ok_records_of {f : Addr} {fd : FuncData} (F : FunD K "records_of" "records_of" (defArgs s_records_of) (defBody s_records_of) (defScope s_records_of) [] [] f fd) (T : Tx K mg) (hm : mg "records_of" = some (.ref f)) (hb : Binds K fd ["tree"] []) : ∀ d, FnOk P w K mg base CX0 d f fd ["tree"] (sp_tree d fun t => .int (t.recs : Nat))
  | 0 => no_tree
  | d + 1 => by
    have c_records_of : Cal P w K mg base d "records_of" ["tree"] (sp_tree d fun t => .int (t.recs : Nat)) := ⟨f, fd, ok_records_of F T hm hb d, hm, F.kp, hb⟩
    refine F.ok sc_records_of (fun vs H Q E h => h.len1) (fun cdv A outer s H vs Q E hr h => ?_)
    obtain ⟨t, v, rfl, ht, hd, hsz, hsh, q⟩ := h
    refine ⟨_, PSs.nox (pss_cons (ps_if (pt_cmpR (op_eq_nilK K hr.units0) (pv 0) (pe_tup pa_nil) (nomark _))
        (pss_one (ps_ret pe_int))
        pss_nil)
      (pss_one (ps_ret (pe_op op_add pe_int (pe_callB (cr_sumK K rfl) (by rfl) T.sum (by decide +kernel) (pa_cons (pe_lc (own := [("word", 1), ("field", 2)]) (by rfl) sc_records_of.nd (pi_tupK K (pv 0)) (blkOk_by (N := ["tree", "word", "field"]) (sc := (defScope s_records_of)) (by decide +kernel)) (fun _ _ _ _ _ => (pg_tupK K (n := 2) rfl (pgs_cons (pg_name (i := 1) sc_records_of.nd rfl (by first | exact Or.inl rfl | exact Or.inr rfl)) (pgs_cons (pg_name (i := 2) sc_records_of.nd rfl (by first | exact Or.inl rfl | exact Or.inr rfl)) pgs_nil)))) (fun _ _ _ _ _ => pts_nil) (fun _ _ _ _ _ => (pe_cal c_records_of (hr.mono (by omega)) (by rfl) (pa_cons (pv 2) pa_nil)))) pa_nil)))))), ?_⟩
    obtain ⟨a, ps, rfl, ha, hf⟩ := ht
    have hl := hf.len
    have hfl := t.fields_len
    -- tree == ()
    refine ⟨_, rfl, Nat.zero_le _, fun e ne => ?_⟩
    have s1 := same_upd (o := .tup []) ne
    refine ⟨a, e, ps, rfl, rfl, .inl (.inl (s1 _ _ ha)), .inl (.inl upd_same), _, rfl, ?_⟩
    refine iteE hf.nil_iff (fun e0 => ?_) (fun e0 => ?_)
    · have := q _ s1
      rw [Tr.nil_of e0] at this
      exact this
    refine ⟨_, rfl, a, rfl, ⟨_, .inl (.inl (s1 _ _ ha))⟩, fun D hD => ?_⟩
    refine lcM (walk_tup (xs := ps)) t.fields hl.symm (fun m => some (.int (m.2.recs : Nat))) (fun H s => Same.tup s (.inl (.inl (s1 _ _ ha)))) (sz4 (by omega)) hD (fun i x m H' hx hm' s' => ?_) (fun H1 s2 d1 => ?_)
    · obtain ⟨p, q', g1, g2, g3⟩ := hf.get hm'
      rw [g1] at hx
      cases hx
      intro Q1 Q0 h1 h0
      have s3 := s1.trans s'
      have dl := Tr.depth_lt (List.mem_of_getElem? hm')
      have sl := Tr.size_mem (List.mem_of_getElem? hm')
      exact ⟨p, _, rfl, .inl (.inl (s3 _ _ g2)), rfl, _, _, rfl, _, _, rfl, rfl, rfl, _, rfl, m.2, _, rfl, g3.same s3, by omega, by omega, (Tr.short_mem hsh (List.mem_of_getElem? hm')).2, fun H2 s4 => h1 _ _ rfl s4⟩
    have el : (t.fields.filterMap fun m => some (V.int (m.2.recs : Nat))) = (t.fields.map fun m => ((m.2.recs : Nat) : Int)).map V.int := by
      rw [List.filterMap_eq_map', List.map_map]
      rfl
    rw [el] at d1
    refine ⟨D, _, rfl, .inl (.inl d1), _, _, rfl, rfl, ?_⟩
    have qq : Q (.int ((t.recs : Nat) : Int)) H1 := q _ (s1.trans s2)
    rw [← recs_int e0] at qq
    exact qq
theorem sc_plains_of : FnScope ["tree", "word", "field"] ["tree"] (defScope s_plains_of) := ⟨rfl, rfl, rfl, by decide +kernel, rfl, by decide +kernel, by decide +kernel⟩
theorem ok_plains_of {f : Addr} {fd : FuncData} (F : FunD K "plains_of" "plains_of" (defArgs s_plains_of) (defBody s_plains_of) (defScope s_plains_of) [] [] f fd) (T : Tx K mg) (hm : mg "plains_of" = some (.ref f)) (hb : Binds K fd ["tree"] []) : ∀ d, FnOk P w K mg base CX0 d f fd ["tree"] (sp_tree d fun t => .int (t.plains : Nat))
  | 0 => no_tree
  | d + 1 => by
    have c_plains_of : Cal P w K mg base d "plains_of" ["tree"] (sp_tree d fun t => .int (t.plains : Nat)) := ⟨f, fd, ok_plains_of F T hm hb d, hm, F.kp, hb⟩
    refine F.ok sc_plains_of (fun vs H Q E h => h.len1) (fun cdv A outer s H vs Q E hr h => ?_)
    obtain ⟨t, v, rfl, ht, hd, hsz, hsh, q⟩ := h
    refine ⟨_, PSs.nox (pss_cons (ps_if (pt_cmpR (op_eq_nilK K hr.units0) (pv 0) (pe_tup pa_nil) (nomark _))
        (pss_one (ps_ret pe_int))
        pss_nil)
      (pss_one (ps_ret (pe_callB (cr_sumK K rfl) (by rfl) T.sum (by decide +kernel) (pa_cons (pe_lc (own := [("word", 1), ("field", 2)]) (by rfl) sc_plains_of.nd (pi_tupK K (pv 0)) (blkOk_by (N := ["tree", "word", "field"]) (sc := (defScope s_plains_of)) (by decide +kernel)) (fun _ _ _ _ _ => (pg_tupK K (n := 2) rfl (pgs_cons (pg_name (i := 1) sc_plains_of.nd rfl (by first | exact Or.inl rfl | exact Or.inr rfl)) (pgs_cons (pg_name (i := 2) sc_plains_of.nd rfl (by first | exact Or.inl rfl | exact Or.inr rfl)) pgs_nil)))) (fun _ _ _ _ _ => pts_nil) (fun _ _ _ _ _ => (pe_cal c_plains_of (hr.mono (by omega)) (by rfl) (pa_cons (pv 2) pa_nil)))) pa_nil))))), ?_⟩
    obtain ⟨a, ps, rfl, ha, hf⟩ := ht
    have hl := hf.len
    have hfl := t.fields_len
    -- tree == ()
    refine ⟨_, rfl, Nat.zero_le _, fun e ne => ?_⟩
    have s1 := same_upd (o := .tup []) ne
    refine ⟨a, e, ps, rfl, rfl, .inl (.inl (s1 _ _ ha)), .inl (.inl upd_same), _, rfl, ?_⟩
    refine iteE hf.nil_iff (fun e0 => ?_) (fun e0 => ?_)
    · have := q _ s1
      rw [Tr.nil_of e0] at this
      exact this
    refine ⟨_, rfl, a, rfl, ⟨_, .inl (.inl (s1 _ _ ha))⟩, fun D hD => ?_⟩
    refine lcM (walk_tup (xs := ps)) t.fields hl.symm (fun m => some (.int (m.2.plains : Nat))) (fun H s => Same.tup s (.inl (.inl (s1 _ _ ha)))) (sz4 (by omega)) hD (fun i x m H' hx hm' s' => ?_) (fun H1 s2 d1 => ?_)
    · obtain ⟨p, q', g1, g2, g3⟩ := hf.get hm'
      rw [g1] at hx
      cases hx
      intro Q1 Q0 h1 h0
      have s3 := s1.trans s'
      have dl := Tr.depth_lt (List.mem_of_getElem? hm')
      have sl := Tr.size_mem (List.mem_of_getElem? hm')
      exact ⟨p, _, rfl, .inl (.inl (s3 _ _ g2)), rfl, _, _, rfl, _, _, rfl, rfl, rfl, _, rfl, m.2, _, rfl, g3.same s3, by omega, by omega, (Tr.short_mem hsh (List.mem_of_getElem? hm')).2, fun H2 s4 => h1 _ _ rfl s4⟩
    have el : (t.fields.filterMap fun m => some (V.int (m.2.plains : Nat))) = (t.fields.map fun m => ((m.2.plains : Nat) : Int)).map V.int := by
      rw [List.filterMap_eq_map', List.map_map]
      rfl
    rw [el] at d1
    refine ⟨D, _, rfl, .inl (.inl d1), ?_⟩
    have qq : Q (.int ((t.plains : Nat) : Int)) H1 := q _ (s1.trans s2)
    rw [← plains_int e0] at qq
    exact qq
theorem sc_text_of : FnScope ["tree", "fields", "word", "field"] ["tree"] (defScope s_text_of) := ⟨rfl, rfl, rfl, by decide +kernel, rfl, by decide +kernel, by decide +kernel⟩
theorem ok_text_of {f : Addr} {fd : FuncData} (F : FunD K "text_of" "text_of" (defArgs s_text_of) (defBody s_text_of) (defScope s_text_of) [] [] f fd) (T : Tx K mg) (hm : mg "text_of" = some (.ref f)) (hb : Binds K fd ["tree"] []) : ∀ d, FnOk P w K mg base CX0 d f fd ["tree"] (sp_tree d fun t => .str t.text)
  | 0 => no_tree
  | d + 1 => by
    have c_text_of : Cal P w K mg base d "text_of" ["tree"] (sp_tree d fun t => .str t.text) := ⟨f, fd, ok_text_of F T hm hb d, hm, F.kp, hb⟩
    refine F.ok sc_text_of (fun vs H Q E h => h.len1) (fun cdv A outer s H vs Q E hr h => ?_)
    obtain ⟨t, v, rfl, ht, hd, hsz, hsh, q⟩ := h
    refine ⟨_, PSs.nox (pss_cons (ps_if (pt_cmpR (op_eq_nilK K hr.units0) (pv 0) (pe_tup pa_nil) (nomark _))
        (pss_one (ps_ret pe_str))
        pss_nil)
      (pss_cons (ps_set (i := 1) sc_text_of.nd rfl (by first | exact Or.inl rfl | exact Or.inr rfl) (pe_join pe_str (pe_lc (own := [("word", 2), ("field", 3)]) (by rfl) sc_text_of.nd (pi_tupK K (pv 0)) (blkOk_by (N := ["tree", "fields", "word", "field"]) (sc := (defScope s_text_of)) (by decide +kernel)) (fun _ _ _ _ _ => (pg_tupK K (n := 2) rfl (pgs_cons (pg_name (i := 2) sc_text_of.nd rfl (by first | exact Or.inl rfl | exact Or.inr rfl)) (pgs_cons (pg_name (i := 3) sc_text_of.nd rfl (by first | exact Or.inl rfl | exact Or.inr rfl)) pgs_nil)))) (fun _ _ _ _ _ => pts_nil) (fun _ _ _ _ _ => (pe_op op_add_str (pe_op op_add_str (pv 2) pe_str) (pe_cal c_text_of (hr.mono (by omega)) (by rfl) (pa_cons (pv 3) pa_nil)))))))
      (pss_one (ps_ret (pe_op op_add_str (pe_op op_add_str pe_str (pv 1)) pe_str))))), ?_⟩
    obtain ⟨a, ps, rfl, ha, hf⟩ := ht
    have hl := hf.len
    have hfl := t.fields_len
    -- tree == ()
    refine ⟨_, rfl, Nat.zero_le _, fun e ne => ?_⟩
    have s1 := same_upd (o := .tup []) ne
    refine ⟨a, e, ps, rfl, rfl, .inl (.inl (s1 _ _ ha)), .inl (.inl upd_same), _, rfl, ?_⟩
    refine iteE hf.nil_iff (fun e0 => ?_) (fun e0 => ?_)
    · have := q _ s1
      rw [Tr.nil_of e0] at this
      exact this
    refine ⟨⟨_, rfl⟩, _, rfl, a, rfl, ⟨_, .inl (.inl (s1 _ _ ha))⟩, fun D hD => ?_⟩
    refine lcM (walk_tup (xs := ps)) t.fields hl.symm (fun m => some (.str (m.1 ++ ": " ++ m.2.text))) (fun H s => Same.tup s (.inl (.inl (s1 _ _ ha)))) (sz4 (by omega)) hD (fun i x m H' hx hm' s' => ?_) (fun H1 s2 d1 => ?_)
    · obtain ⟨p, q', g1, g2, g3⟩ := hf.get hm'
      rw [g1] at hx
      cases hx
      intro Q1 Q0 h1 h0
      have s3 := s1.trans s'
      have dl := Tr.depth_lt (List.mem_of_getElem? hm')
      have sl := Tr.size_mem (List.mem_of_getElem? hm')
      obtain ⟨w8, sh⟩ := Tr.short_mem hsh (List.mem_of_getElem? hm')
      have tl := (Tr.join_le sh).2
      have e2 : ((": " : Str)).length = 2 := by decide +kernel
      have l2 : (m.1 ++ ": ").length ≤ 10 := by rw [len_app, e2]; omega
      exact ⟨p, _, rfl, .inl (.inl (s3 _ _ g2)), rfl, _, _, rfl, _, _, rfl, rfl, rfl, _, rfl, m.1, ": ", rfl, rfl, sz5 (by omega), _, rfl, m.2, _, rfl, g3.same s3, by omega, by omega, sh, fun H2 s4 => ⟨_, _, rfl, rfl, sz5 (by omega), h1 _ _ rfl s4⟩⟩
    have el : (t.fields.filterMap fun m => some (V.str (m.1 ++ ": " ++ m.2.text))) = t.pieces.map V.str := by
      rw [List.filterMap_eq_map', Tr.pieces_eq, List.map_map]
      rfl
    rw [el] at d1
    have jl := (Tr.join_le hsh).1
    have e3 : ((", " : Str)).length = 2 := by decide +kernel
    refine ⟨", ", D, t.pieces, rfl, rfl, .inl (.inl (.inl d1)), ?_, ?_⟩
    · rw [e3]
      omega
    rw [TL.join_eq]
    have tl := (Tr.join_le hsh).2
    have et := text_eq e0
    rw [et, len_app, len_app] at tl
    have e4 : (("{" : Str)).length = 1 := by decide +kernel
    have e5 : (("}" : Str)).length = 1 := by decide +kernel
    refine ⟨_, rfl, "{", _, rfl, rfl, sz5 (by omega), _, _, rfl, rfl, sz5 (by rw [len_app]; omega), ?_⟩
    have qq : Q (.str t.text) H1 := q _ (s1.trans s2)
    rw [et] at qq
    exact qq
end
end Lx

namespace Lx
open PySem PySem.Spec PyProof.Rows L2 Ub
section
variable {P : Program} {w : World} {K : PySem.W.Frag} {mg : Str → Option Value} {base : Heap}
theorem sc_scan_word : FnScope ["text", "at", "end"] ["text", "at"] (defScope s_scan_word) := ⟨rfl, rfl, rfl, by decide +kernel, rfl, by decide +kernel, by decide +kernel⟩
theorem ok_scan_word {f : Addr} {fd : FuncData} (F : FunD K "scan_word" "scan_word" (defArgs s_scan_word) (defBody s_scan_word) (defScope s_scan_word) [] [] f fd) (T : Tx K mg) (c_is_word : Cal P w K mg base 1 "is_word" ["text"] (sp_is_word K)) : FnOk P w K mg base CX0 2 f fd ["text", "at"] sp_scan_word := by
  refine F.ok sc_scan_word (fun vs H Q E h => ?_) (fun cdv A outer s H vs Q E hr h => ?_)
  · obtain ⟨z, a, rfl, _⟩ := h
    rfl
  · obtain ⟨z, a, rfl, hz, ha, q⟩ := h
    refine ⟨_, PSs.nox (pss_cons (ps_set (i := 2) sc_scan_word.nd rfl (by first | exact Or.inl rfl | exact Or.inr rfl) (pe_bmK K PySem.F.plainAttrs_str PySem.F.slot_str_find PySem.F.type_str_find mt_find4 (pv 0) (pa_cons pe_str (pa_cons (pv 1) (pa_cons (pe_op op_add (pv 1) pe_int) pa_nil)))))
      (pss_cons (ps_if (PW.pt (pw_or (pt_cmpR op_lt (pv 2) pe_int (nomark _)) (pw_or1 (pt_not (pt_val (pe_cal c_is_word (hr.mono (by omega)) (by rfl) (pa_cons (pe_slice sl_str (pv 0) (po_some (pv 1)) (po_some (pv 2))) pa_nil)))))))
        (pss_one (ps_ret pe_non))
        pss_nil)
      (pss_one (ps_ret (pe_slice sl_str (pv 0) (po_some (pv 1)) (po_some (pv 2))))))), ?_⟩
    refine ⟨_, rfl, rfl, _, rfl, _, rfl, _, _, rfl, rfl, z, ": ", _, _, rfl, rfl, ?_⟩
    rcases find_colon z a ha with ⟨e, h1, h2, h3, h4⟩ | ⟨h1, h2⟩
    · rw [h1]
      have hs := scanW_found h3 h4 h2
      rw [hs] at q
      have ec : cutS z (some (a : Int)) (some ((a + e : Nat) : Int)) = ⟨(((cs z).drop a).take e).toArray⟩ := by
        rw [cut_nat ha (by omega), show a + e - a = e by omega]
      have hl : ((⟨(((cs z).drop a).take e).toArray⟩ : Str)).length ≤ 10000 := by
        show (((cs z).drop a).take e).toArray.size ≤ 10000
        rw [List.size_toArray, List.length_take]
        omega
      refine ⟨_, rfl, _, _, rfl, rfl, _, rfl, ?_⟩
      refine iteN (by omega) ?_
      refine ⟨_, rfl, _, rfl, _, rfl, _, rfl, _, rfl, z, rfl, sz5 hz, _, rfl, .inl ⟨_, rfl, ?_, fun H1 s1 => ⟨_, rfl, ?_⟩⟩⟩
      · rw [ec]; exact hl
      rw [ec]
      cases hw : isWord ⟨(((cs z).drop a).take e).toArray⟩ with
      | true =>
        rw [hw] at q
        refine ⟨_, rfl, _, rfl, _, rfl, _, rfl, _, rfl, z, rfl, sz5 hz, ?_⟩
        rw [ec]
        exact q H1 s1
      | false =>
        rw [hw] at q
        exact q H1 s1
    · rw [h1]
      rw [scanW_none h2] at q
      refine ⟨_, rfl, _, _, rfl, rfl, _, rfl, ?_⟩
      refine iteY (by decide) ?_
      exact q H (Same.refl _)
end
end Lx

namespace Lx
open PySem PySem.Spec PyProof.Rows L2 Ub
/-- what the loop keeps -/
structure ScI (H0 H : Hp) (z : Str) (f : Nat) (s0 : List Nat) (fl : Addr) (l : List (Str × Tr)) (here n : Nat) : Prop where
  same : Same H0 H
  lst : ∃ ps, H fl = some (.lst ps) ∧ FsAt H (.ofFields l) ps
  num : l.length + n = 3
  le : here ≤ z.length
  go : scanF (scanS f) 3 [] s0 = (scanF (scanS f) n (l.map (·.1)) ((cs z).drop here)).map fun p => (prep l p.1, p.2)
section
variable {P : Program} {w : World} {K : PySem.W.Frag} {mg : Str → Option Value} {base : Heap}
theorem sc_scan_shape : FnScope ["text", "at", "floors", "fields", "here", "word", "tree", "name", "field"] ["text", "at", "floors"] (defScope s_scan_shape) := ⟨rfl, rfl, rfl, by decide +kernel, rfl, by decide +kernel, by decide +kernel⟩
theorem ok_scan_shape {f : Addr} {fd : FuncData} (F : FunD K "scan_shape" "scan_shape" (defArgs s_scan_shape) (defBody s_scan_shape) (defScope s_scan_shape) [.int 3] [] f fd) (T : Tx K mg) (hm : mg "scan_shape" = some (.ref f)) (hb : Binds K fd ["text", "at", "floors"] []) (c_scan_word : Cal P w K mg base 2 "scan_word" ["text", "at"] sp_scan_word) : ∀ d, FnOk P w K mg base CX0 (d + 2) f fd ["text", "at", "floors"] (sp_scan d)
  | 0 => FnOk.mono no_scan (by omega)
  | d + 1 => by
    have c_scan_shape : Cal P w K mg base (d + 2) "scan_shape" ["text", "at", "floors"] (sp_scan d) := ⟨f, fd, ok_scan_shape F T hm hb c_scan_word d, hm, F.kp, hb⟩
    refine F.ok sc_scan_shape (fun vs H Q E h => ?_) (fun cdv A outer s H vs Q E hr h => ?_)
    · obtain ⟨_, _, _, rfl, _⟩ := h
      rfl
    obtain ⟨z, a, fl, rfl, hz, ha, hd, h3, q⟩ := h
    refine ⟨_, PSs.nox (pss_cons (ps_if (pt_cmpR op_eq (pe_slice sl_str (pv 0) (po_some (pv 1)) (po_some (pe_op op_add (pv 1) pe_int))) pe_str (nomark _))
        (pss_one (ps_ret (pe_tup (pa_cons (pe_tup pa_nil) (pa_cons (pe_op op_add (pv 1) pe_int) pa_nil)))))
        pss_nil)
      (pss_cons (ps_if (PW.pt (pw_or (pt_cmpR op_ne (pe_slice sl_str (pv 0) (po_some (pv 1)) (po_some (pe_op op_add (pv 1) pe_int))) pe_str (nomark _)) (pw_or1 (pt_cmpR op_eq (pv 2) pe_int (nomark _)))))
        (pss_one (ps_ret (pe_tup (pa_cons pe_non (pa_cons (pv 1) pa_nil)))))
        pss_nil)
      (pss_cons (ps_set (i := 3) sc_scan_shape.nd rfl (by first | exact Or.inl rfl | exact Or.inr rfl) (pe_lst pa_nil))
      (pss_cons (ps_set (i := 4) sc_scan_shape.nd rfl (by first | exact Or.inl rfl | exact Or.inr rfl) (pe_op op_add (pv 1) pe_int))
      (pss_one (ps_while PassesOwn.never (pt_val pe_bl)
        (pss_cons (ps_set (i := 5) sc_scan_shape.nd rfl (by first | exact Or.inl rfl | exact Or.inr rfl) (pe_cal c_scan_word (hr.mono (by omega)) (by rfl) (pa_cons (pv 0) (pa_cons (pv 4) pa_nil))))
          (pss_cons (ps_if (PW.pt (pw_or (pt_cmpR op_isN (pv 5) pe_non (nomark _)) (pw_or (pt_cmpR op_eq (pe_callB (call_len_seqK K) (by rfl) T.len (by decide +kernel) (pa_cons (pv 3) pa_nil)) (pe_globI (by rfl) T.c_MOST_FIELDS) (nomark _)) (pw_or1 (pt_cmpR (op_in_seqK K) (pv 5) (pe_lc (own := [("name", 7), ("field", 8)]) (by rfl) sc_scan_shape.nd (pi_listK K (pv 3)) (blkOk_by (N := ["text", "at", "floors", "fields", "here", "word", "tree", "name", "field"]) (sc := (defScope s_scan_shape)) (by decide +kernel)) (fun _ _ _ _ _ => (pg_tupK K (n := 2) rfl (pgs_cons (pg_name (i := 7) sc_scan_shape.nd rfl (by first | exact Or.inl rfl | exact Or.inr rfl)) (pgs_cons (pg_name (i := 8) sc_scan_shape.nd rfl (by first | exact Or.inl rfl | exact Or.inr rfl)) pgs_nil)))) (fun _ _ _ _ _ => pts_nil) (fun _ _ _ _ _ => (pv 7))) (by rfl))))))
            (pss_one (ps_ret (pe_tup (pa_cons pe_non (pa_cons (pv 1) pa_nil)))))
            pss_nil)
          (pss_cons (ps_asg (pe_cal c_scan_shape (hr.mono (by omega)) (by rfl) (pa_cons (pv 0) (pa_cons (pe_op op_add (pe_op op_add (pv 4) (pe_callB call_len_str (by rfl) T.len (by decide +kernel) (pa_cons (pv 5) pa_nil))) pe_int) (pa_cons (pe_op op_sub (pv 2) pe_int) pa_nil)))) (pg_tupK K (n := 2) rfl (pgs_cons (pg_name (i := 6) sc_scan_shape.nd rfl (by first | exact Or.inl rfl | exact Or.inr rfl)) (pgs_cons (pg_name (i := 4) sc_scan_shape.nd rfl (by first | exact Or.inl rfl | exact Or.inr rfl)) pgs_nil))))
          (pss_cons (ps_if (pt_cmpR op_isN (pv 6) pe_non (nomark _))
            (pss_one (ps_ret (pe_tup (pa_cons pe_non (pa_cons (pv 1) pa_nil)))))
            pss_nil)
          (pss_cons (ps_expr (pe_bmK K PySem.F.plainAttrs_list PySem.F.slot_list_append PySem.F.type_list_append mt_append (pv 3) (pa_cons (pe_tup (pa_cons (pv 5) (pa_cons (pv 6) pa_nil))) pa_nil)))
          (pss_cons (ps_if (pt_cmpR op_eq (pe_slice sl_str (pv 0) (po_some (pv 4)) (po_some (pe_op op_add (pv 4) pe_int))) pe_str (nomark _))
            (pss_one (ps_ret (pe_tup (pa_cons (pe_callTy (call_tuple_ofK K) (by rfl) T.tuple (by decide +kernel) (pa_cons (pv 3) pa_nil)) (pa_cons (pe_op op_add (pv 4) pe_int) pa_nil)))))
            pss_nil)
          (pss_cons (ps_if (pt_cmpR op_ne (pe_slice sl_str (pv 0) (po_some (pv 4)) (po_some (pe_op op_add (pv 4) pe_int))) pe_str (nomark _))
            (pss_one (ps_ret (pe_tup (pa_cons pe_non (pa_cons (pv 1) pa_nil)))))
            pss_nil)
          (pss_one (ps_set (i := 4) sc_scan_shape.nd rfl (by first | exact Or.inl rfl | exact Or.inr rfl) (pe_op op_add (pv 4) pe_int)))))))))))))))), ?_⟩
    -- if text[at:at + 1] == '.'
    refine ⟨_, rfl, _, rfl, _, rfl, _, rfl, _, _, rfl, rfl, _, rfl, z, rfl, sz5 hz, rfl, _, rfl, ?_⟩
    refine iteE (cut1_eq ha cs_dot) (fun e => ?_) (fun e => ?_)
    · obtain ⟨r, hr', hs⟩ := scanS_dot (f := fl) (of_decide_eq_true e)
      rw [hs] at q
      refine ⟨Nat.zero_le _, fun u nu => ?_⟩
      refine ⟨_, rfl, _, _, rfl, rfl, (by show 2 ≤ sizeLine; decide), fun p np => ?_⟩
      have s1 := same_upd (o := .tup []) nu
      have s2 := same_upd (o := .tup [.ref u, .int ((a : Int) + 1)]) np
      refine q _ p (s1.trans s2) ⟨.ref u, ⟨u, [], rfl, s2 _ _ upd_same, rfl⟩, ?_⟩
      have hl : ((cs z).drop a).length = r.length + 1 := by rw [hr']; rfl
      rw [List.length_drop, cs_len] at hl
      have e1 : ((a : Nat) : Int) + 1 = ((z.length - r.length : Nat) : Int) := by omega
      rw [← e1]
      exact upd_same
    -- if text[at:at + 1] != '{' or floors == 0
    have none_out : scanS fl ((cs z).drop a) = none → ∀ H1, Same H H1 → ∀ p, H1 p = none → Q (.ref p) (upd H1 p (.tup [.non, .int (a : Int)])) := fun hs H1 s1 p np => by
      rw [hs] at q
      exact q _ p (s1.trans (same_upd np)) upd_same
    refine ⟨_, rfl, _, rfl, _, rfl, _, rfl, _, _, rfl, rfl, _, rfl, z, rfl, sz5 hz, rfl, _, rfl, ?_⟩
    have en := cut1_eq (z := z) (x := "{") ha cs_open
    refine iteE (c := !decide (((cs z).drop a).take 1 = [123])) (by rw [← en]) (fun e2 => ?_) (fun e2 => ?_)
    · refine iteT ?_
      refine ⟨_, rfl, (by show 2 ≤ sizeLine; decide), none_out (scanS_none (of_decide_eq_false e) (.inl (by simpa using e2))) H (Same.refl _)⟩
    refine ⟨_, rfl, rfl, _, rfl, ?_⟩
    refine iteE (dI _ _) (fun e3 => ?_) (fun e3 => ?_)
    · have hf0 : fl = 0 := by
        have : ((fl : Nat) : Int) = 0 := of_decide_eq_true e3
        omega
      refine ⟨_, rfl, (by show 2 ≤ sizeLine; decide), none_out (scanS_none (of_decide_eq_false e) (.inr hf0)) H (Same.refl _)⟩
    have hf0 : fl ≠ 0 := by
      have : ¬ ((fl : Nat) : Int) = 0 := of_decide_eq_false e3
      omega
    obtain ⟨g, rfl⟩ : ∃ g, fl = g + 1 := ⟨fl - 1, by omega⟩
    obtain ⟨s0, hs0, hsc⟩ := scanS_rec (f := g) (show ((cs z).drop a).take 1 = [123] by simpa using e2)
    -- fields = []; here = at + 1
    refine ⟨Nat.zero_le _, fun b nb => ?_⟩
    refine ⟨_, rfl, _, _, rfl, rfl, ?_⟩
    have hl0 : ((cs z).drop a).length = s0.length + 1 := by rw [hs0]; rfl
    rw [List.length_drop, cs_len] at hl0
    have hd1 : (cs z).drop (a + 1) = s0 := by
      rw [← List.drop_drop, hs0]
      rfl
    -- the loop
    refine ⟨fun m σ H1 => ∃ l here n y5 y6, m = n ∧ σ = [some (.str z), some (.int (a : Nat)), some (.int ((g + 1 : Nat) : Int)), some (.ref b), some (.int (here : Nat)), y5, y6, none, none] ∧ ScI H H1 z g s0 b l here n, ⟨3, [], a + 1, 3, none, none, rfl, ?_, ?_⟩, ?_⟩
    · have e1 : (((a + 1 : Nat)) : Int) = (a : Int) + 1 := by omega
      rw [e1]
      rfl
    · refine ⟨same_upd nb, ⟨[], upd_same, rfl⟩, rfl, by omega, ?_⟩
      rw [hd1]
      show _ = (scanF (scanS g) 3 [] s0).map fun p => (p.1, p.2)
      cases scanF (scanS g) 3 [] s0 <;> rfl
    rintro m σ H1 ⟨l, here, n, y5, y6, rfl, rfl, I⟩
    obtain ⟨same, ⟨ps, hps, hfs⟩, num, le, go⟩ := I
    have bad : scanF (scanS g) m (l.map (·.1)) ((cs z).drop here) = none → scanS (g + 1) ((cs z).drop a) = none := fun h => by
      rw [hsc, go, h]
      rfl
    have hlen : ps.length = l.length := by
      rw [hfs.len, Tr.fields_of]
    refine ⟨true, rfl, ?_⟩
    refine iteT ?_
    refine ⟨fun σ' H' => ∃ l here n y5 y6, n < m ∧ σ' = [some (.str z), some (.int (a : Nat)), some (.int ((g + 1 : Nat) : Int)), some (.ref b), some (.int (here : Nat)), y5, y6, none, none] ∧ ScI H H' z g s0 b l here n, ?_, ?_⟩
    · rintro σ' H' ⟨l', here', n', y5', y6', hlt, rfl, I'⟩
      exact ⟨n', hlt, l', here', n', y5', y6', rfl, rfl, I'⟩
    -- word = scan_word(text, here)
    refine ⟨_, rfl, _, rfl, z, here, rfl, hz, le, fun H2 s2 => ?_⟩
    have same2 := same.trans s2
    cases hw : scanW ((cs z).drop here) with
    | none =>
      refine ⟨_, rfl, rfl, _, rfl, ?_⟩
      refine iteT ?_
      exact ⟨_, rfl, (by show 2 ≤ sizeLine; decide), none_out (bad (scanF_none1 hw)) H2 same2⟩
    | some wd =>
      obtain ⟨gw, r0, hr0⟩ := scanW_some hw
      have w8 := (isWord_len gw).2
      have hlr : ((cs z).drop here).length = wd.length + (r0.length + 2) := by
        rw [hr0, List.length_append, cs_len]
        rfl
      rw [List.length_drop, cs_len] at hlr
      refine ⟨_, rfl, rfl, _, rfl, ?_⟩
      refine iteF ?_
      refine ⟨_, rfl, b, ps, rfl, .inl (.inl (.inl (s2 _ _ hps))), rfl, _, rfl, ?_⟩
      refine iteE (dI _ _) (fun e4 => ?_) (fun e4 => ?_)
      · have h4 : ((ps.length : Nat) : Int) = 3 := of_decide_eq_true e4
        have hm0 : m = 0 := by omega
        refine iteT ?_
        refine ⟨_, rfl, (by show 2 ≤ sizeLine; decide), none_out (bad ?_) H2 same2⟩
        rw [hm0]
        rfl
      have h4 : ¬ ((ps.length : Nat) : Int) = 3 := of_decide_eq_false e4
      obtain ⟨n', rfl⟩ : ∃ n', m = n' + 1 := ⟨m - 1, by omega⟩
      -- word in [name for name, field in fields]
      refine ⟨_, rfl, _, rfl, b, rfl, ⟨_, .inl (.inl (s2 _ _ hps))⟩, fun D hD => ?_⟩
      refine lcM (walk_list (xs := ps)) l hlen.symm (fun p => some (.str p.1)) (fun H s => s.seq (.inl (.inl (s2 _ _ hps)))) (sz5 (by omega)) hD (fun i x p H' hx hp s' => ?_) (fun H3 s3 d3 => ?_)
      · obtain ⟨pa, qv, g1, g2, _⟩ := hfs.get (m := p) (by rw [Tr.fields_of]; exact hp)
        rw [g1] at hx
        cases hx
        intro Q1 Q0 h1 h0
        exact ⟨pa, _, rfl, .inl (.inl (s' _ _ (s2 _ _ g2))), rfl, _, _, rfl, _, _, rfl, rfl, rfl, _, rfl, h1 _ _ rfl (Same.refl _)⟩
      have el : (l.filterMap fun p => some (V.str p.1)) = (l.map (·.1)).map V.str := by
        rw [List.filterMap_eq_map', List.map_map]
        rfl
      rw [el] at d3
      have same3 := same2.trans s3
      refine ⟨D, _, rfl, .inl (.inl (.inl d3)), rfl, flat_strs _, _, rfl, ?_⟩
      refine iteE (c := decide (wd ∈ l.map fun p : Str × Tr => p.1)) (by show inV (.str wd) ((l.map fun p : Str × Tr => p.1).map V.str) = _; exact inV_str _ _) (fun e5 => ?_) (fun e5 => ?_)
      · exact ⟨_, rfl, (by show 2 ≤ sizeLine; decide), none_out (bad (scanF_none2 hw (of_decide_eq_true e5))) H3 same3⟩
      have hk : wd ∉ l.map (·.1) := of_decide_eq_false e5
      -- tree, here = scan_shape(..)
      refine ⟨_, rfl, _, rfl, _, rfl, wd, rfl, sz5 (by omega), _, _, rfl, rfl, _, _, rfl, rfl, _, rfl, _, _, rfl, rfl, z, here + wd.length + 2, g, ?_, hz, by omega, by omega, by omega, fun H4 p s4 out => ?_⟩
      · have e1 : ((here : Int) + (wd.length : Int)) + 2 = ((here + wd.length + 2 : Nat) : Int) := by omega
        have e2 : ((g + 1 : Nat) : Int) - 1 = ((g : Nat) : Int) := by omega
        show [V.str z, V.int (((here : Int) + (wd.length : Int)) + 2), V.int (((g + 1 : Nat) : Int) - 1)] = _
        rw [e1, e2]
      have same4 := same3.trans s4
      have hdd : ((cs z).drop here).drop (wd.length + 2) = (cs z).drop (here + wd.length + 2) := by
        rw [List.drop_drop, Nat.add_assoc]
      cases hsc2 : scanS g ((cs z).drop (here + wd.length + 2)) with
      | none =>
        rw [hsc2] at out
        have out : H4 p = some (.tup [.non, .int ((here + wd.length + 2 : Nat) : Int)]) := out
        refine ⟨p, _, rfl, .inl (.inl out), rfl, _, _, rfl, _, _, rfl, rfl, ?_⟩
        refine ⟨_, rfl, rfl, _, rfl, ?_⟩
        refine iteT ?_
        exact ⟨_, rfl, (by show 2 ≤ sizeLine; decide), none_out (bad (scanF_none3 hw (by rw [hdd]; exact hsc2))) H4 same4⟩
      | some pr =>
        obtain ⟨t, r⟩ := pr
        rw [hsc2] at out
        obtain ⟨qv, ht, hp⟩ := out
        obtain ⟨fine, hpre⟩ := scanS_out _ _ _ _ hsc2
        have hall : cs z = ((cs z).take (here + wd.length + 2) ++ tcs t) ++ r := by
          rw [List.append_assoc, ← hpre, List.take_append_drop]
        have hrl : r.length ≤ z.length := by
          have := congrArg List.length hall
          rw [List.length_append, cs_len] at this
          omega
        have hdr : (cs z).drop (z.length - r.length) = r := by
          have := drop_suf hall
          rwa [cs_len] at this
        generalize hn2 : z.length - r.length = here2 at hp hdr
        have le2 : here2 ≤ z.length := by omega
        have hr2 : r.length = z.length - here2 := by omega
        have hst : scanF (scanS g) (n' + 1) (l.map (·.1)) ((cs z).drop here) = nextF (scanS g) n' (l.map (·.1)) wd t r := scanF_step hw hk (by rw [hdd]; exact hsc2)
        rw [hst] at go bad
        refine ⟨p, _, rfl, .inl (.inl hp), rfl, _, _, rfl, _, _, rfl, rfl, ?_⟩
        obtain ⟨ta, tps, rfl, hta, hfa⟩ := id ht
        refine ⟨_, rfl, rfl, _, rfl, ?_⟩
        refine iteF ?_
        -- fields.append((word, tree))
        have hb4 : H4 b = some (.lst ps) := s4 _ _ (s3 _ _ (s2 _ _ hps))
        refine ⟨_, rfl, .inl ⟨rfl, _, .inl (.inl hb4)⟩, _, rfl, _, rfl, (by show 2 ≤ sizeLine; decide), fun u nu => ?_⟩
        have nbu : b ≠ u := ne_of_none hb4 nu
        have su := same_upd (o := .tup [.str wd, .ref ta]) nu
        refine ⟨b, ps, _, rfl, rfl, su _ _ hb4, small1000 (by omega), ?_⟩
        refine absH fun H5 eH => ?_
        have nb4 : H b = none := nb
        have same5 : Same H H5 := fun c o e => by
          rw [eH, upd_ne (ne_of_none e nb4)]
          exact su _ _ (same4 _ _ e)
        have s45 : ∀ c o, H4 c = some o → c ≠ b → H5 c = some o := fun c o e hc => by
          rw [eH, upd_ne hc]
          exact su _ _ e
        have hb5 : H5 b = some (.lst (ps ++ [.ref u])) := by rw [eH, upd_same]
        have hu5 : H5 u = some (.tup [.str wd, .ref ta]) := by
          rw [eH, upd_ne nbu.symm]
          exact upd_same
        have tupne : ∀ {c : Addr} {xs : List V}, H4 c = some (.tup xs) → H5 c = some (.tup xs) := fun {c xs} e => s45 _ _ e (ne_of e hb4 (by intro z; cases z))
        clear eH
        have mono : ∀ {tt : Tr} {qs : List V}, FsAt H4 tt qs → FsAt H5 tt qs := fun {tt qs} => FsAt.tups (fun c xs e => tupne e)
        have hfs5 : FsAt H5 (.ofFields (l ++ [(wd, t)])) (ps ++ [.ref u]) := FsAt.snoc (mono (hfs.same ((s2.trans s3).trans s4))) hu5 ⟨ta, tps, rfl, tupne hta, mono hfa⟩
        -- if text[here:here + 1] == '}'
        refine ⟨_, rfl, _, rfl, _, rfl, _, rfl, _, _, rfl, rfl, _, rfl, z, rfl, sz5 hz, rfl, _, rfl, ?_⟩
        refine iteE (cut1_eq le2 cs_shut) (fun e6 => ?_) (fun e6 => ?_)
        · have e6 : ((cs z).drop here2).take 1 = [125] := of_decide_eq_true e6
          rw [hdr] at e6
          obtain ⟨r', hr', hnx⟩ := nextF_end (scan := scanS g) (n := n') (known := l.map (·.1)) (w := wd) (t := t) e6
          rw [hsc, go, hnx] at q
          refine ⟨_, rfl, b, _, rfl, .inl ⟨.inl (.inl hb5), fun v nv => ?_⟩⟩
          refine ⟨_, rfl, _, _, rfl, rfl, (by show 2 ≤ sizeLine; decide), fun o no => ?_⟩
          have sv := same_upd (o := .tup (ps ++ [.ref u])) nv
          have so := same_upd (o := .tup [.ref v, .int ((here2 : Int) + 1)]) no
          refine q _ o ((same5.trans sv).trans so) ⟨.ref v, ⟨v, _, rfl, so _ _ upd_same, ?_⟩, ?_⟩
          · show FsAt _ (prep l (.cons wd t .nil)) _
            rw [← prep_snoc, prep_nil]
            exact hfs5.same (sv.trans so)
          · have hl' : r.length = r'.length + 1 := by rw [hr']; rfl
            have e7 : ((here2 : Nat) : Int) + 1 = ((z.length - r'.length : Nat) : Int) := by omega
            rw [← e7]
            exact upd_same
        have e6 : ¬ ((cs z).drop here2).take 1 = [125] := of_decide_eq_false e6
        rw [hdr] at e6
        refine ⟨_, rfl, _, rfl, _, rfl, _, rfl, _, _, rfl, rfl, _, rfl, z, rfl, sz5 hz, rfl, _, rfl, ?_⟩
        have ec := cut2_eq (z := z) (x := ", ") le2 cs_comma
        refine iteE (c := !decide (((cs z).drop here2).take 2 = [44, 32])) (by rw [← ec]) (fun e7 => ?_) (fun e7 => ?_)
        · have e7 : ¬ ((cs z).drop here2).take 2 = [44, 32] := by simpa using e7
          rw [hdr] at e7
          exact ⟨_, rfl, (by show 2 ≤ sizeLine; decide), none_out (bad (nextF_bad e6 e7)) H5 same5⟩
        have e7 : ((cs z).drop here2).take 2 = [44, 32] := by simpa using e7
        rw [hdr] at e7
        obtain ⟨r', hr', hnx⟩ := nextF_on (scan := scanS g) (n := n') (known := l.map (·.1)) (w := wd) (t := t) e7
        have hl' : r.length = r'.length + 2 := by rw [hr']; rfl
        refine ⟨_, rfl, _, _, rfl, rfl, l ++ [(wd, t)], here2 + 2, n', some (.str wd), some (.ref ta), Nat.lt_succ_self _, ?_, same5, ⟨_, hb5, hfs5⟩, ?_, by omega, ?_⟩
        · have e8 : ((here2 + 2 : Nat) : Int) = (here2 : Int) + 2 := by omega
          rw [e8]
          rfl
        · rw [List.length_append]
          show l.length + 1 + n' = 3
          omega
        · rw [go, hnx, ← List.drop_drop, hdr, hr', List.map_append]
          show Option.map _ (Option.map _ (scanF (scanS g) n' (l.map (·.1) ++ [wd]) r')) = Option.map _ (scanF (scanS g) n' (l.map (·.1) ++ [wd]) r')
          cases scanF (scanS g) n' (l.map (·.1) ++ [wd]) r' with
          | none => rfl
          | some p =>
            show some (prep l (.cons wd t p.1), p.2) = some (prep (l ++ [(wd, t)]) p.1, p.2)
            rw [prep_snoc]
end
end Lx

namespace Lx
open PySem PySem.Spec PyProof.Rows L2 Ub Ur Up
section
variable {P : Program} {w : World} {K : PySem.W.Frag} {mg : Str → Option Value} {base : Heap}
theorem sc_is_bounded : FnScope ["tree"] ["tree"] (defScope s_is_bounded) := ⟨rfl, rfl, rfl, by decide +kernel, rfl, by decide +kernel, by decide +kernel⟩
theorem ok_is_bounded {f : Addr} {fd : FuncData} (F : FunD K "is_bounded" "is_bounded" (defArgs s_is_bounded) (defBody s_is_bounded) (defScope s_is_bounded) [] [] f fd) (T : Tx K mg) (c_records_of : Cal P w K mg base 4 "records_of" ["tree"] (sp_tree 4 fun t => .int (t.recs : Nat))) (c_plains_of : Cal P w K mg base 4 "plains_of" ["tree"] (sp_tree 4 fun t => .int (t.plains : Nat))) : FnOk P w K mg base CX0 5 f fd ["tree"] sp_bounded := by
  refine F.ok sc_is_bounded (fun vs H Q E h => ?_) (fun cdv A outer s H vs Q E hr h => ?_)
  · obtain ⟨t, v, rfl, _⟩ := h
    rfl
  obtain ⟨t, v, rfl, ht, hd, hsz, hsh, q⟩ := h
  refine ⟨_, PSs.nox (pss_one (ps_ret (pe_and (pe_cmpR op_le (pe_cal c_records_of (hr.mono (by omega)) (by rfl) (pa_cons (pv 0) pa_nil)) (pe_globI (by rfl) T.c_MOST_RECORDS) (nomark _)) (pe_one (pe_cmpR op_le (pe_cal c_plains_of (hr.mono (by omega)) (by rfl) (pa_cons (pv 0) pa_nil)) (pe_globI (by rfl) T.c_MOST_PLAINS) (nomark _)))))), ?_⟩
  refine ⟨_, rfl, t, v, rfl, ht, hd, hsz, hsh, fun H1 s1 => ?_⟩
  refine ⟨_, _, rfl, rfl, _, rfl, ?_⟩
  refine iteE rfl (fun e => ?_) fun e => ?_
  · have e1 : t.recs ≤ 5 := by have := of_decide_eq_true e; omega
    refine ⟨_, rfl, t, v, rfl, ht.same s1, hd, hsz, hsh, fun H2 s2 => ?_⟩
    refine ⟨_, _, rfl, rfl, ?_⟩
    have z := q H2 (s1.trans s2)
    have ed : decide (t.recs ≤ 5 ∧ t.plains ≤ 5) = decide (((t.plains : Nat) : Int) ≤ 5) := by
      by_cases h : t.plains ≤ 5
      · rw [decide_eq_true (⟨e1, h⟩ : t.recs ≤ 5 ∧ t.plains ≤ 5), decide_eq_true (by omega)]
      · rw [decide_eq_false (fun y : t.recs ≤ 5 ∧ t.plains ≤ 5 => h y.2), decide_eq_false (by omega)]
    rw [ed] at z
    exact z
  · have e1 : ¬ t.recs ≤ 5 := by have := of_decide_eq_false e; omega
    have z := q H1 s1
    rw [decide_eq_false (fun y : t.recs ≤ 5 ∧ t.plains ≤ 5 => e1 y.1)] at z
    exact z
theorem sc_tree_of : FnScope ["text", "tree", "here"] ["text"] (defScope s_tree_of) := ⟨rfl, rfl, rfl, by decide +kernel, rfl, by decide +kernel, by decide +kernel⟩
theorem ok_tree_of {f : Addr} {fd : FuncData} (F : FunD K "tree_of" "tree_of" (defArgs s_tree_of) (defBody s_tree_of) (defScope s_tree_of) [] [] f fd) (T : Tx K mg) (c_is_bounded : Cal P w K mg base 5 "is_bounded" ["tree"] sp_bounded) (c_scan_shape2 : CalD P w K mg base 6 "scan_shape" ["text", "at", "floors"] [.int 3] (sp_scan 4)) : FnOk P w K mg base CX0 7 f fd ["text"] (sp_tree_of K) := by
  refine F.ok sc_tree_of (fun vs H Q E h => ?_) (fun cdv A outer s H vs Q E hr h => ?_)
  · obtain ⟨x, rfl, _⟩ := h
    rfl
  obtain ⟨x, rfl, h⟩ := h
  refine ⟨_, PSs.nox (pss_cons (ps_if (pt_not (pt_val (pe_callB (call_isiK' K) (by rfl) T.isinstance (by decide +kernel) (pa_cons (pv 0) (pa_cons (pe_bltn (v := .ty "str") (by rfl) T.str (by decide +kernel) rfl) pa_nil)))))
        (pss_one (ps_ret pe_non))
        pss_nil)
      (pss_cons (ps_asg (pe_calD c_scan_shape2 (hr.mono (by omega)) (by rfl) (pa_cons (pv 0) (pa_cons pe_int pa_nil))) (pg_tupK K (n := 2) rfl (pgs_cons (pg_name (i := 1) sc_tree_of.nd rfl (by first | exact Or.inl rfl | exact Or.inr rfl)) (pgs_cons (pg_name (i := 2) sc_tree_of.nd rfl (by first | exact Or.inl rfl | exact Or.inr rfl)) pgs_nil))))
      (pss_cons (ps_if (PW.pt (pw_or (pt_cmpR op_isN (pv 1) pe_non (nomark _)) (pw_or (pt_cmpR op_ne (pv 2) (pe_callB call_len_str (by rfl) T.len (by decide +kernel) (pa_cons (pv 0) pa_nil)) (nomark _)) (pw_or1 (pt_not (pt_val (pe_cal c_is_bounded (hr.mono (by omega)) (by rfl) (pa_cons (pv 1) pa_nil))))))))
        (pss_one (ps_ret pe_non))
        pss_nil)
      (pss_one (ps_ret (pv 1)))))), ?_⟩
  rcases h with ⟨z, rfl, hz, q⟩ | ⟨⟨T0, ht, hk⟩, q⟩
  · refine ⟨_, rfl, _, _, _, _, true, rfl, .ty "str", .base (.str z), kit_ty (by decide +kernel), true, rfl, ?_⟩
    refine iteE (c := false) rfl (fun z => nomatch z) fun _ => ?_
    refine ⟨_, rfl, z, 0, 3, rfl, hz, Nat.zero_le _, by decide, by decide, fun H1 p s1 ho => ?_⟩
    have e0 : (cs z).drop 0 = cs z := rfl
    rw [e0] at ho
    cases hs : scanS 3 (cs z) with
    | none =>
      rw [hs] at ho
      have q1 : Q .non H1 := by
        have y := q H1 s1
        unfold shapeOf at y
        rw [hs] at y
        exact y
      have ho : H1 p = some (.tup [.non, .int ((0 : Nat) : Int)]) := ho
      refine ⟨p, _, rfl, .inl (.inl ho), rfl, _, _, rfl, _, _, rfl, rfl, ?_⟩
      refine ⟨_, rfl, rfl, _, rfl, ?_⟩
      exact iteT (iteT q1)
    | some tr =>
      obtain ⟨t, r⟩ := tr
      rw [hs] at ho
      obtain ⟨v, hv, hp⟩ := ho
      obtain ⟨hf, he⟩ := scanS_out 3 _ _ _ hs
      obtain ⟨h1, h2, h3⟩ := fine_has 3 t hf
      have hb := bnd3 (Nat.le_refl 3)
      have lz : (cs z).length = z.length := by simp [cs, Str.length]
      have lr : r.length ≤ z.length := by rw [← lz, he, List.length_append]; omega
      have nv : v ≠ .non := by
        obtain ⟨a, ps, e, _⟩ := hv
        rw [e]
        exact fun z => nomatch z
      refine ⟨p, _, rfl, .inl (.inl hp), rfl, _, _, rfl, _, _, rfl, rfl, ?_⟩
      refine ⟨_, rfl, rfl, _, rfl, ?_⟩
      refine iteN nv ?_
      refine ⟨_, rfl, _, rfl, z, rfl, sz5 hz, rfl, _, rfl, ?_⟩
      cases r with
      | cons c r =>
        have q1 : Q .non H1 := by
          have y := q H1 s1
          unfold shapeOf at y
          rw [hs] at y
          exact y
        refine iteNY (fun e => ?_) (iteT q1)
        have e := V.int.inj e
        rw [List.length_cons] at e lr
        omega
      | nil =>
        refine iteNN (by rw [List.length_nil, Nat.sub_zero]) ?_
        refine ⟨_, rfl, t, v, rfl, hv, by omega, by omega, h3, fun H2 s2 => ?_⟩
        refine ⟨_, rfl, ?_⟩
        have y := q H2 (s1.trans s2)
        unfold shapeOf at y
        rw [hs] at y
        by_cases hbd : t.recs ≤ 5 ∧ t.plains ≤ 5
        · have y2 : ∀ v, TrAt H2 t v → Q v H2 := by simpa only [if_pos hbd] using y
          refine iteE (c := false) (by rw [decide_eq_true hbd]; rfl) (fun z => nomatch z) fun _ => ?_
          exact ⟨_, rfl, y2 v (hv.same s2)⟩
        · have y2 : Q .non H2 := by simpa only [if_neg hbd] using y
          refine iteE (c := true) (by rw [decide_eq_false hbd]; rfl) (fun _ => y2) fun z => nomatch z
  · refine ⟨_, rfl, _, _, _, _, false, rfl, .ty "str", ht, kit_ty hk, false, rfl, ?_⟩
    exact iteT (q H (Same.refl _))
end
end Lx

namespace Lx
open PySem PySem.Spec PyProof.Rows L2 Ub Ur Ug Ue Up
section
variable {P : Program} {w : World} {K : PySem.W.Frag} {mg : Str → Option Value} {base : Heap}
theorem sc_are_parameters : FnScope ["parameters", "words", "plains", "pair", "tree"] ["parameters"] (defScope s_are_parameters) := ⟨rfl, rfl, rfl, by decide +kernel, rfl, by decide +kernel, by decide +kernel⟩
theorem ok_are_parameters {f : Addr} {fd : FuncData} (F : FunD K "are_parameters" "are_parameters" (defArgs s_are_parameters) (defBody s_are_parameters) (defScope s_are_parameters) [] [] f fd) (T : Tx K mg) (c_tree_of : Cal P w K mg base 7 "tree_of" ["text"] (sp_tree_of K)) (c_is_word : Cal P w K mg base 1 "is_word" ["text"] (sp_is_word K)) (c_plains_of : Cal P w K mg base 4 "plains_of" ["tree"] (sp_tree 4 fun t => .int (t.plains : Nat))) : FnOk P w K mg base CX0 8 f fd ["parameters"] sp_arep := by
  refine F.ok sc_are_parameters (fun vs H Q E h => ?_) (fun cdv A outer s H vs Q E hr h => ?_)
  · obtain ⟨_, _, rfl, _⟩ := h
    rfl
  obtain ⟨v, d, rfl, hv, sm, q⟩ := h
  refine ⟨_, PSs.nox (pss_cons (ps_if (PW.pt (pw_or (pt_not (pt_val (pe_callB (call_isiK' K) (by rfl) T.isinstance (by decide +kernel) (pa_cons (pv 0) (pa_cons (pe_bltn (v := .ty "tuple") (by rfl) T.tuple (by decide +kernel) rfl) pa_nil))))) (pw_or1 (pt_cmpR op_gt (pe_callB (call_len_seqK K) (by rfl) T.len (by decide +kernel) (pa_cons (pv 0) pa_nil)) (pe_globI (by rfl) T.c_MOST_PARAMETERS) (nomark _)))))
        (pss_one (ps_ret pe_bl))
        pss_nil)
      (pss_cons (ps_set (i := 1) sc_are_parameters.nd rfl (by first | exact Or.inl rfl | exact Or.inr rfl) (pe_lst pa_nil))
      (pss_cons (ps_set (i := 2) sc_are_parameters.nd rfl (by first | exact Or.inl rfl | exact Or.inr rfl) (pe_lst pa_nil))
      (pss_cons (ps_for PassesOwn.never rfl (pi_tupK K (pv 0)) (pg_name (i := 3) sc_are_parameters.nd rfl (by first | exact Or.inl rfl | exact Or.inr rfl))
        (pss_cons (ps_if (PW.pt (pw_or (pt_not (pt_val (pe_callB (call_isiK' K) (by rfl) T.isinstance (by decide +kernel) (pa_cons (pv 3) (pa_cons (pe_bltn (v := .ty "tuple") (by rfl) T.tuple (by decide +kernel) rfl) pa_nil))))) (pw_or1 (pt_cmpR op_ne (pe_callB (call_len_seqK K) (by rfl) T.len (by decide +kernel) (pa_cons (pv 3) pa_nil)) pe_int (nomark _)))))
            (pss_one (ps_ret pe_bl))
            pss_nil)
          (pss_cons (ps_set (i := 4) sc_are_parameters.nd rfl (by first | exact Or.inl rfl | exact Or.inr rfl) (pe_cal c_tree_of (hr.mono (by omega)) (by rfl) (pa_cons (pe_ix (ix_tupK K) (pv 3) pe_int (fun _ _ => rfl)) pa_nil)))
          (pss_cons (ps_if (PW.pt (pw_or (pt_cmpR op_isN (pv 4) pe_non (nomark _)) (pw_or (pt_not (pt_val (pe_cal c_is_word (hr.mono (by omega)) (by rfl) (pa_cons (pe_ix (ix_tupK K) (pv 3) pe_int (fun _ _ => rfl)) pa_nil)))) (pw_or1 (pt_cmpR (op_in_seqK K) (pe_ix (ix_tupK K) (pv 3) pe_int (fun _ _ => rfl)) (pv 1) (by rfl))))))
            (pss_one (ps_ret pe_bl))
            pss_nil)
          (pss_cons (ps_expr (pe_bmK K PySem.F.plainAttrs_list PySem.F.slot_list_append PySem.F.type_list_append mt_append (pv 1) (pa_cons (pe_ix (ix_tupK K) (pv 3) pe_int (fun _ _ => rfl)) pa_nil)))
          (pss_one (ps_expr (pe_bmK K PySem.F.plainAttrs_list PySem.F.slot_list_append PySem.F.type_list_append mt_append (pv 2) (pa_cons (pe_cal c_plains_of (hr.mono (by omega)) (by rfl) (pa_cons (pv 4) pa_nil)) pa_nil)))))))))
      (pss_one (ps_ret (pe_cmpR op_le (pe_callB (cr_sumK K rfl) (by rfl) T.sum (by decide +kernel) (pa_cons (pv 2) pa_nil)) (pe_globI (by rfl) T.c_MOST_SLOTS) (nomark _)))))))), ?_⟩
  obtain ⟨Ty, ht, hk⟩ := hv.tyT (K := K)
  refine ⟨_, rfl, _, _, _, _, _, rfl, .ty "tuple", ht, kit_ty hk, _, rfl, ?_⟩
  rcases hv.tupOr with ⟨p, xs, ds, rfl, rfl, hp, hxs⟩ | hn
  rotate_left
  · rw [areP_no hn] at q
    rw [hn]
    exact iteT (iteT (q _ (Same.refl _)))
  refine iteF ?_
  obtain ⟨l1, sm⟩ := sm ds rfl
  have lx := hxs.len
  refine ⟨_, rfl, p, _, rfl, .inr (.inl (.inl hp)), _, _, rfl, rfl, _, rfl, ?_⟩
  have ea : areP (.tuple ds) = (decide (ds.length ≤ 3) && parP ds [] []) := rfl
  rw [ea] at q
  by_cases h3 : ds.length ≤ 3
  rotate_left
  · refine iteY (by rw [lx]; omega) ?_
    rw [decide_eq_false h3] at q
    exact q _ (Same.refl _)
  refine iteN (by rw [lx]; omega) ?_
  rw [decide_eq_true h3, Bool.true_and] at q
  -- words = []; plains = []
  refine ⟨Nat.zero_le _, fun W nW => ?_⟩
  have sW := same_upd (o := .lst []) nW
  refine ⟨Nat.zero_le _, fun N nN => ?_⟩
  have sN := same_upd (o := .lst []) nN
  have eW : (upd (upd H W (.lst [])) N (.lst [])) W = some (.lst []) := sN _ _ upd_same
  have eN : (upd (upd H W (.lst [])) N (.lst [])) N = some (.lst []) := upd_same
  have nN' : H N = none := sW.free nN
  have WN : W ≠ N := ne_of_none upd_same nN
  have s1 : Same H (upd (upd H W (.lst [])) N (.lst [])) := sW.trans sN
  generalize upd (upd H W (.lst [])) N (.lst []) = H1 at *
  refine ⟨_, rfl, p, rfl, ⟨_, .inl (.inl (s1 _ _ hp))⟩, ?_⟩
  refine for_it (walk_tup (K := K) (a := p) (xs := xs)) (fun i σ HH => ∃ (ws : List Str) (ns : List Nat) (y3 y4 : Option V), σ = [some (.ref p), some (.ref W), some (.ref N), y3, y4] ∧ Same H HH ∧ HH W = some (.lst (ws.map V.str)) ∧ HH N = some (.lst (ns.map fun n => V.int (n : Nat))) ∧ parP ds [] [] = parP (ds.drop i) ws ns ∧ ws.length ≤ i ∧ ns.length ≤ i) ?_ (fun i σ HH _ pp => ?_) (fun i x σ HH HH' hi pp y => ?_) (fun σ HH pp => ?_)
  · exact ⟨[], [], none, none, rfl, s1, eW, eN, rfl, Nat.le_refl _, Nat.le_refl _⟩
  · obtain ⟨_, _, _, _, _, sH, _⟩ := pp
    exact .inl (.inl (sH _ _ hp))
  · obtain ⟨ws, ns, y3, y4, rfl, sH, hW, hN, hP, lw, ln⟩ := pp
    obtain ⟨rfl, hx⟩ := y
    obtain ⟨di, hdi, hdv⟩ := hxs.get hx
    have hdv := hdv.same sH
    have edr : ds.drop i = di :: ds.drop (i + 1) := by
      have hlt : i < ds.length := (List.getElem?_eq_some_iff.mp hdi).1
      rw [List.drop_eq_getElem_cons hlt]
      congr 1
      exact (List.getElem?_eq_some_iff.mp hdi).2
    have out : ∀ HH2, Same HH' HH2 → pair1 ws di = none → Q (.bl false) HH2 := fun HH2 s2 hno => by
      have := q HH2 (sH.trans s2)
      rw [hP, edr, parP_none hno] at this
      exact this
    obtain ⟨Ti, hti, hki⟩ := hdv.tyT (K := K)
    refine ⟨_, rfl, _, _, _, _, _, rfl, .ty "tuple", hti, kit_ty hki, _, rfl, ?_⟩
    rcases hdv.tupOr with ⟨pi, xi, dsi, rfl, rfl, hpi, hxi⟩ | hn
    rotate_left
    · rw [hn]
      exact iteT (iteT (out _ (Same.refl _) (pair1_tup hn)))
    refine iteF ?_
    have lxi := hxi.len
    refine ⟨_, rfl, pi, _, rfl, .inr (.inl (.inl hpi)), rfl, _, rfl, ?_⟩
    by_cases h2 : dsi.length = 2
    rotate_left
    · refine iteNY (fun e => h2 ?_) (out _ (Same.refl _) (pair1_len h2))
      have e := V.int.inj e
      omega
    refine iteNN (by rw [lxi, h2]; rfl) ?_
    obtain ⟨a, b, rfl⟩ : ∃ a b, dsi = [a, b] := by
      match dsi, h2 with
      | [a, b], _ => exact ⟨a, b, rfl⟩
    obtain ⟨va, vb, rfl⟩ : ∃ va vb, xi = [va, vb] := by
      match xi, lxi with
      | [x, y], _ => exact ⟨x, y, rfl⟩
    obtain ⟨ha, hb⟩ : DtV [] HH' va a ∧ DtV [] HH' vb b := by
      cases hxi with
      | cons h1 h2 => cases h2 with
        | cons h2 _ => exact ⟨h1, h2⟩
    have smi : ∀ z, PyData.str z ∈ [a, b] → z.length ≤ 10000 := (sm _ (List.mem_of_getElem? hdi) _ rfl).2
    -- tree = tree_of(pair[1])
    refine ⟨_, rfl, pi, _, 1, vb, rfl, rfl, .inl (.inl hpi), rfl, vb, rfl, ?_⟩
    rcases hb.strOr (K := K) with ⟨z, rfl, rfl⟩ | ⟨hbn, hbs⟩
    rotate_left
    · refine .inr ⟨hbs, fun H2 s2 => ?_⟩
      exact ⟨_, rfl, rfl, _, rfl, iteT (iteT (out _ s2 (pair1_snd fun z e => absurd e (hbn z))))⟩
    refine .inl ⟨z, rfl, by have := smi z (by simp); omega, fun H2 s2 => ?_⟩
    cases esh : shapeOf z with
    | none => exact ⟨_, rfl, rfl, _, rfl, iteT (iteT (out _ s2 (pair1_snd fun z' e => by injection e with e; rw [← e]; exact esh)))⟩
    | some t =>
      intro v hv
      obtain ⟨hg, hzt⟩ := shapeOf_out esh
      obtain ⟨g1, g2, g3⟩ := good_has hg
      have nv : v ≠ .non := by
        obtain ⟨a, ps, e, _⟩ := hv
        rw [e]
        exact fun z => nomatch z
      refine ⟨_, rfl, rfl, _, rfl, ?_⟩
      refine iteN nv ?_
      refine ⟨_, rfl, pi, _, 0, va, rfl, rfl, .inl (.inl (s2 _ _ hpi)), at0, va, rfl, ?_⟩
      rcases (ha.same s2).strOr (K := K) with ⟨wd, rfl, rfl⟩ | ⟨han, has⟩
      rotate_left
      · refine .inr ⟨has, fun H3 s3 => ?_⟩
        exact ⟨_, rfl, iteT (iteT (out _ (s2.trans s3) (pair1_fst fun w e => absurd e (han w))))⟩
      refine .inl ⟨wd, rfl, smi wd (by simp), fun H3 s3 => ?_⟩
      refine ⟨_, rfl, ?_⟩
      have s23 := s2.trans s3
      cases ew : isWord wd with
      | false => exact iteT (iteT (out _ s23 (pair1_fst fun w e => by injection e with e; rw [← e, ew]; exact fun z => nomatch z.1)))
      | true =>
        refine iteF ?_
        have hW3 := s23 _ _ hW
        have hN3 := s23 _ _ hN
        have hpi3 := s23 _ _ hpi
        refine ⟨_, rfl, pi, _, 0, .str wd, rfl, rfl, .inl (.inl hpi3), at0, _, rfl, W, _, rfl, .inl (.inl (.inl hW3)), rfl, flat_strs _, _, rfl, ?_⟩
        refine iteE (c := decide (wd ∈ ws)) (inV_str _ _) (fun e => ?_) (fun e => ?_)
        · exact out _ s23 (pair1_fst fun w e2 => by injection e2 with e2; rw [← e2]; exact fun z => z.2 (of_decide_eq_true e))
        have hnw : wd ∉ ws := of_decide_eq_false e
        -- words.append(pair[0])
        refine ⟨_, rfl, .inl ⟨rfl, _, .inl (.inl hW3)⟩, _, rfl, pi, _, 0, .str wd, rfl, rfl, .inl (.inl hpi3), at0, W, _, _, rfl, rfl, hW3, Nat.lt_of_lt_of_le (show (ws.map V.str).length < 1000 by rw [List.length_map]; omega) (by decide), ?_⟩
        refine absH fun H4 e4 => ?_
        have hW4 : H4 W = some (.lst ((ws ++ [wd]).map V.str)) := by rw [e4, upd_same, List.map_append]; rfl
        have hN4 : H4 N = some (.lst (ns.map fun n => V.int (n : Nat))) := by rw [e4, upd_ne WN.symm]; exact hN3
        have s04 : Same H H4 := by rw [e4]; exact same_mut (sH.trans s23) nW
        have hv4 : TrAt H4 t v := by
          refine (hv.same s3).tups fun c xs e => ?_
          rw [e4, upd_ne (ne_of e hW3 (by intro z; cases z))]
          exact e
        clear e4
        -- plains.append(plains_of(tree))
        refine ⟨_, rfl, .inl ⟨rfl, _, .inl (.inl hN4)⟩, _, rfl, t, v, rfl, hv4, by omega, by omega, g3, fun H5 s5 => ?_⟩
        refine ⟨N, _, _, rfl, rfl, s5 _ _ hN4, Nat.lt_of_lt_of_le (show (ns.map fun n => V.int (n : Nat)).length < 1000 by rw [List.length_map]; omega) (by decide), ?_⟩
        refine ⟨ws ++ [wd], ns ++ [t.plains], _, _, rfl, same_mut (s04.trans s5) nN', ?_, ?_, ?_, by rw [List.length_append]; exact Nat.succ_le_succ lw, by rw [List.length_append]; exact Nat.succ_le_succ ln⟩
        · rw [upd_ne WN]
          exact s5 _ _ hW4
        · rw [upd_same, List.map_append]
          rfl
        · rw [hP, edr, parP_some (pair1_ok esh ew hnw)]
  · obtain ⟨ws, ns, y3, y4, rfl, sH, hW, hN, hP, lw, ln⟩ := pp
    refine ⟨_, rfl, N, ns.map fun n => ((n : Nat) : Int), rfl, .inl (.inl (by rw [List.map_map]; exact hN)), _, _, rfl, rfl, ?_⟩
    have := q _ sH
    rw [hP, List.drop_of_length_le (by omega)] at this
    have e1 : decide (ns.sum ≤ 3) = decide ((ns.map fun n => ((n : Nat) : Int)).sum ≤ 3) := by
      rw [← natSum]
      congr 1
      apply propext
      omega
    show Q (.bl (decide ((ns.map fun n => ((n : Nat) : Int)).sum ≤ 3))) HH
    rw [← e1]
    exact this
end
end Lx

namespace Lx
open PySem PySem.Spec PyProof.Rows L2 Ub Ur Ug Ue Up
section
variable {P : Program} {w : World} {K : PySem.W.Frag} {mg : Str → Option Value} {base : Heap}
theorem sc_Shape___init__ : FnScope ["self", "text", "tree", "spots", "word", "path", "shape", "field"] ["self", "text"] (defScope s_Shape___init__) := ⟨rfl, rfl, rfl, by decide +kernel, rfl, by decide +kernel, by decide +kernel⟩
theorem ok_Shape {fd : FuncData} (F : Df K ("Shape", some "__init__") "__init__" "Shape.__init__" s_Shape___init__ [] fd) (T : Tx K mg) (hb : Binds K fd ["self", "text"] []) (c_tree_of : Cal P w K mg base 7 "tree_of" ["text"] (sp_tree_of K)) (c_text_of : Cal P w K mg base 4 "text_of" ["tree"] (sp_tree 4 fun t => .str t.text)) (x_BadShape : CalX P w K mg base 1 "BadShape" (He.ga K "BadShape") "text") :
    ∀ d, FnOk P w K mg base (CX P w) (8 + 2 * d) (He.fAd K ("Shape", some "__init__")) fd ["self", "text"] (sp_shape K (He.ga K "Shape") (He.ga K "BadShape") d)
  | 0 => ⟨fun vs H Q E h => by obtain ⟨x, y, dx, rfl, _⟩ := h; rfl, fun A outer s H args us vs Q E _ _ _ _ h => by
      obtain ⟨x, y, dx, _, _, h⟩ := h
      rcases h with ⟨t, _, h, _⟩ | ⟨h, _⟩
      · exact absurd h (Nat.not_lt_zero _)
      · exact absurd h (Nat.lt_irrefl _)⟩
  | d + 1 => by
    have m_Shape : CalM P w K mg base (8 + 2 * d) "Shape" (He.ga K "Shape") ["self", "text"] (sp_shape K (He.ga K "Shape") (He.ga K "BadShape") d) := ⟨_, fd, T.m_Shape, ok_Shape F T hb c_tree_of c_text_of x_BadShape d, T.g_Shape, hb⟩
    rw [show 8 + 2 * (d + 1) = (9 + 2 * d) + 1 by omega]
    refine F.ok (k := 9 + 2 * d) sc_Shape___init__ (fun vs H Q E h => by obtain ⟨x, y, dx, rfl, _⟩ := h; rfl) (fun cdv A outer s H vs Q E hr h => ?_)
    obtain ⟨x, y, dx, rfl, hx, h⟩ := h
    refine ⟨_, (pss_cons (ps_set (i := 2) sc_Shape___init__.nd rfl (by first | exact Or.inl rfl | exact Or.inr rfl) (pe_cal c_tree_of (hr.mono (by omega)) (by rfl) (pa_cons (pv 1) pa_nil)))
      (pss_cons (ps_if (pt_cmpR op_isN (pv 2) pe_non (nomark _))
        (pss_one (ps_raiseX x_BadShape rfl (takes_of rfl rfl rfl rfl) (hr.mono (by omega)) (by rfl) (pv 1)))
        pss_nil)
      (pss_cons (ps_fld (pv 0) (pv 1) rfl)
      (pss_cons (ps_fld (pv 0) (pv 2) rfl)
      (pss_cons (ps_fld (pv 0) (pe_callTy (call_tuple_ofK K) (by rfl) T.tuple (by decide +kernel) (pa_cons (pe_lc (own := [("word", 4), ("field", 7)]) (by rfl) sc_Shape___init__.nd (pi_tupK K (pv 2)) (blkOk_by (N := ["self", "text", "tree", "spots", "word", "path", "shape", "field"]) (sc := (defScope s_Shape___init__)) (by decide +kernel)) (fun _ _ _ _ _ => (pg_tupK K (n := 2) rfl (pgs_cons (pg_name (i := 4) sc_Shape___init__.nd rfl (by first | exact Or.inl rfl | exact Or.inr rfl)) (pgs_cons (pg_name (i := 7) sc_Shape___init__.nd rfl (by first | exact Or.inl rfl | exact Or.inr rfl)) pgs_nil)))) (fun _ _ _ _ _ => pts_nil) (fun _ _ _ _ _ => (pv 4))) pa_nil)) rfl)
      (pss_cons (ps_fld (pv 0) (pe_dc (own := [("word", 4), ("field", 7)]) (by rfl) sc_Shape___init__.nd (pi_tupK K (pv 2)) (blkOk_by (N := ["self", "text", "tree", "spots", "word", "path", "shape", "field"]) (sc := (defScope s_Shape___init__)) (by decide +kernel)) (fun _ _ _ _ _ => (pg_tupK K (n := 2) rfl (pgs_cons (pg_name (i := 4) sc_Shape___init__.nd rfl (by first | exact Or.inl rfl | exact Or.inr rfl)) (pgs_cons (pg_name (i := 7) sc_Shape___init__.nd rfl (by first | exact Or.inl rfl | exact Or.inr rfl)) pgs_nil)))) (fun _ _ _ _ _ => pts_nil) (fun _ _ _ _ _ => (pv 4)) (fun _ _ _ _ _ => (pe_makeS m_Shape (fun _ => passE0) (hr.mono (by omega)) (by rfl) (pa_cons (pe_cal c_text_of (hr.mono (by omega)) (by rfl) (pa_cons (pv 7) pa_nil)) pa_nil)))) rfl)
      (pss_cons (ps_set (i := 3) sc_Shape___init__.nd rfl (by first | exact Or.inl rfl | exact Or.inr rfl) (pe_disp (pps_cons pe_str (pv 0) pps_nil) rfl rfl (by simp) (by decide)))
      (pss_cons (ps_for (passes_of rfl) rfl (pi_tupK K (pe_fldK K (pv 0) rfl)) (pg_name (i := 4) sc_Shape___init__.nd rfl (by first | exact Or.inl rfl | exact Or.inr rfl))
        (pss_one (ps_lock (ps_for (passes_of rfl) rfl (pi_items (pe_fldK K (pe_dget (units1 hr) (pe_fldK K (pv 0) rfl) (pv 4) (fun _ _ => rfl)) rfl)) (pg_tupK K (n := 2) rfl (pgs_cons (pg_name (i := 5) sc_Shape___init__.nd rfl (by first | exact Or.inl rfl | exact Or.inr rfl)) (pgs_cons (pg_name (i := 6) sc_Shape___init__.nd rfl (by first | exact Or.inl rfl | exact Or.inr rfl)) pgs_nil)))
            (pss_one (ps_dput (units1 hr) (pv 3) (pe_op op_add_str (pe_op op_add_str pe_str (pv 4)) (pe_op op_mul_si (pv 5) (pe_callTy call_int1 (by rfl) T.int (by decide +kernel) (pa_cons (pe_cmpR op_ne (pv 5) pe_str (nomark _)) pa_nil)))) (pv 6) rfl))))))
      (pss_one (ps_fld (pv 0) (pv 3) rfl)))))))))), ?_⟩
    rcases h with h | ⟨_, hbad, qe⟩
    rotate_left
    · -- no shape
      rcases hbad with ⟨z, rfl, hz, hn⟩ | hn
      · refine ⟨_, rfl, _, rfl, .inl ⟨z, rfl, hz, fun H1 s1 => ?_⟩⟩
        rw [hn]
        refine ⟨_, rfl, rfl, _, rfl, ?_⟩
        exact iteT ⟨_, rfl, mkX fun e H2 s2 ne he => qe e H2 (s1.trans s2) (s1.free ne) he⟩
      · refine ⟨_, rfl, _, rfl, .inr ⟨hn, fun H1 s1 => ?_⟩⟩
        refine ⟨_, rfl, rfl, _, rfl, ?_⟩
        exact iteT ⟨_, rfl, mkX fun e H2 s2 ne he => qe e H2 (s1.trans s2) (s1.free ne) he⟩
    obtain ⟨t, hg, hd, rfl, q⟩ := h
    obtain ⟨hdep, hsz, hsh⟩ := good_has hg
    obtain ⟨gf, gn⟩ := good_fields hg
    have hlen := (Tr.join_le hsh).2
    refine ⟨_, rfl, _, rfl, .inl ⟨t.text, rfl, by omega, fun H1 s1 => ?_⟩⟩
    rw [shapeOf_in hg]
    intro v hv
    obtain ⟨a, ps, rfl, ha, hf⟩ := id hv
    have lp := hf.len
    have lf := t.fields_len
    refine ⟨_, rfl, rfl, _, rfl, ?_⟩
    refine iteN (fun z => nomatch z) ?_
    -- self.text, self.tree
    have hx1 := s1 _ _ hx
    refine ⟨_, rfl, _, rfl, x, _, dx, _, rfl, hx1, T.k_Shape, T.n_Shape_text, by decide, ?_⟩
    refine ⟨_, rfl, _, rfl, x, _, dx, _, rfl, upd_same, T.k_Shape, T.n_Shape_tree, (by show 1 < 1000; decide), ?_⟩
    refine absH fun J1 eJ1 => ?_
    have kJ1 : ∀ b o, H b = some o → b ≠ x → J1 b = some o := fun b o h z => by
      rw [eJ1, upd_ne z, upd_ne z]
      exact s1 _ _ h
    have k1 : ∀ b o, H1 b = some o → b ≠ x → J1 b = some o := fun b o h z => by rw [eJ1, upd_ne z, upd_ne z]; exact h
    have xJ1 : J1 x = some (.ins (He.ga K "Shape") dx [("text", .str t.text), ("tree", .ref a)]) := by
      rw [eJ1, upd_same, putF_snoc (fs := []) (by decide), putF_snoc (show ("tree" : Str) ∉ [("text" : Str)] by decide)]
      rfl
    have tup1 : ∀ c xs, H1 c = some (.tup xs) → J1 c = some (.tup xs) := fun c xs z => k1 _ _ z fun e => by
      rw [e, hx1] at z
      cases z
    clear eJ1
    have ha1 := tup1 _ _ ha
    have hf1 : FsAt J1 t ps := hf.tups tup1
    -- self.names
    refine ⟨_, rfl, a, rfl, ⟨_, .inl (.inl ha1)⟩, fun D nD => ?_⟩
    refine lcM (walk_tup (xs := ps)) t.fields lp.symm (fun m => some (.str m.1)) (fun H s => Same.tup s (.inl (.inl ha1))) (sz4 (by omega)) nD (fun i z m H' hz hm s' => ?_) (fun J2 s2 d2 => ?_)
    · obtain ⟨p, q', g1, g2, g3⟩ := hf1.get hm
      rw [g1] at hz
      cases hz
      intro Q1 Q0 h1 h0
      exact ⟨p, _, rfl, .inl (.inl (s' _ _ g2)), rfl, _, _, rfl, _, _, rfl, rfl, rfl, _, rfl, h1 _ _ rfl (Same.refl _)⟩
    rw [List.filterMap_eq_map'] at d2
    refine ⟨D, _, rfl, .inl ⟨.inl (.inl d2), fun na nna => ?_⟩⟩
    have xJ2 := same_upd (o := .tup (t.fields.map fun m => V.str m.1)) nna _ _ (s2 _ _ xJ1)
    refine ⟨_, rfl, x, _, dx, _, rfl, xJ2, T.k_Shape, T.n_Shape_names, (by show 2 < 1000; decide), ?_⟩
    refine absH fun J3 eJ3 => ?_
    have nax : na ≠ x := fun e => by
      rw [e, s2 _ _ xJ1] at nna
      cases nna
    have k3 : ∀ b o, J1 b = some o → b ≠ x → J3 b = some o := fun b o h z => by
      rw [eJ3, upd_ne z]
      exact same_upd nna _ _ (s2 _ _ h)
    have kH3 : ∀ b o, H b = some o → b ≠ x → J3 b = some o := fun b o h z => k3 _ _ (kJ1 _ _ h z) z
    have xJ3 : J3 x = some (.ins (He.ga K "Shape") dx [("text", .str t.text), ("tree", .ref a), ("names", .ref na)]) := by
      rw [eJ3, upd_same, putF_snoc (show ("names" : Str) ∉ [("text" : Str), "tree"] by decide)]
      rfl
    have naJ3 : J3 na = some (.tup (t.fields.map fun m => V.str m.1)) := by rw [eJ3, upd_ne nax, upd_same]
    have tup3 : ∀ c xs, J1 c = some (.tup xs) → J3 c = some (.tup xs) := fun c xs z => k3 _ _ z fun e => by
      rw [e, xJ1] at z
      cases z
    clear eJ3
    have ha3 := tup3 _ _ ha1
    have hf3 : FsAt J3 t ps := hf1.tups tup3
    -- self.fields
    refine ⟨_, rfl, a, rfl, ⟨_, .inl (.inl ha3)⟩, fun D' nD' => ?_⟩
    refine dc_tup (xs := ps) (fun i G => ∃ g : Sg, g.tr.fields = t.fields.take i ∧ G D' = some (.dK g.dict) ∧ ShL (fun b => J3 b = none ∧ b ≠ D') (He.ga K "Shape") G g ∧ Same J3 G) ?_ (fun i G _ p => ?_) (fun i z G hz p => ?_) (fun G p => ?_)
    · exact ⟨.nil, rfl, upd_same, trivial, same_upd nD'⟩
    · obtain ⟨_, _, _, _, sG⟩ := p
      exact .inl (.inl (sG _ _ ha3))
    · obtain ⟨g, e1, e2, e3, sG⟩ := p
      have hi : i < t.fields.length := by
        rw [← lp]
        exact (List.getElem?_eq_some_iff.mp hz).1
      have hm : t.fields[i]? = some t.fields[i] := List.getElem?_eq_getElem hi
      generalize t.fields[i] = m at hm
      have hmm := List.mem_of_getElem? hm
      obtain ⟨p, q', g1, g2, g3⟩ := hf3.get hm
      rw [g1] at hz
      cases hz
      have dl := Tr.depth_lt hmm
      obtain ⟨md, ms, mh⟩ := good_has (gf m hmm).1
      refine ⟨p, _, rfl, .inl (.inl (sG _ _ g2)), rfl, _, _, rfl, _, _, rfl, rfl, rfl, _, rfl, ?_⟩
      refine ⟨_, rfl, m.2, q', rfl, g3.same sG, by omega, by omega, mh, fun G2 s2 x' dx' nx' ndx' hne => ?_⟩
      refine ⟨x', _, dx', rfl, upd_same, .inl ⟨m.2, (gf m hmm).1, by omega, rfl, fun g' G3 eg' k3' sh3 => ?_⟩⟩
      have D2 := s2 _ _ e2
      have s23 : Same G2 G3 := fun b o h => k3' b o (by rw [upd_ne (ne_of_none h nx'), upd_ne (ne_of_none h ndx')]; exact h) (ne_of_none h nx')
      have sG3 : Same G G3 := s2.trans s23
      have D3 := sG3 _ _ e2
      have ld := g.dict_len
      have lt : (t.fields.take i).length ≤ i := by rw [List.length_take]; omega
      refine ⟨rfl, g.dict, .inr m.1, rfl, D3, Nat.lt_of_le_of_lt (m := 1000) (by rw [ld, e1]; omega) (by decide), ?_⟩
      have fresh : m.1 ∉ g.tr.fields.map (·.1) := by
        rw [e1]
        intro z
        have nd := gn
        rw [← List.take_append_drop i t.fields, List.map_append] at nd
        have hdr : t.fields.drop i = m :: t.fields.drop (i + 1) := by
          rw [List.drop_eq_getElem_cons hi]
          have := (List.getElem?_eq_some_iff.mp hm).2
          rw [this]
        rw [hdr, List.map_cons] at nd
        exact (List.nodup_append.mp nd).2.2 _ z _ (List.mem_cons_self ..) rfl
      have kz : Kz (fun b => J3 b = none ∧ b ≠ D') G3 (upd G3 D' (.dK (putK g.dict (.inr m.1) (.ref x')))) := fun b o h _ z => by
        have hb : b ≠ D' := by
          rcases z with z | ⟨xs, z⟩
          · exact z.2
          · intro e
            rw [e, D3, z] at h
            cases h
        rw [upd_ne hb]
        exact h
      have x3 : J3 x' = none := sG.free (s2.free nx')
      have xD : x' ≠ D' := fun e => by
        rw [e, D2] at nx'
        cases nx'
      have shn : ShG (fun b => J3 b = none ∧ b ≠ D') (He.ga K "Shape") G3 x' g' := sh3.imp fun b z _ => by
        rcases z with z | z
        · rw [z]
          exact ⟨x3, xD⟩
        · have hbx : b ≠ x' := fun e => by
            rw [e, upd_same] at z
            cases z
          rw [upd_ne hbx] at z
          have hbd : b ≠ dx' := fun e => by
            rw [e, upd_same] at z
            cases z
          rw [upd_ne hbd] at z
          refine ⟨sG.free (s2.free z), fun e => ?_⟩
          rw [e, D2] at z
          cases z
      refine ⟨g.app (.cons m.1 x' g' .nil), ?_, ?_, ?_, fun b o h => ?_⟩
      · rw [Sg.app_tr, e1, List.take_add_one, hm]
        show _ ++ [(m.1, g'.tr)] = _
        rw [eg']
        rfl
      · rw [upd_same, Sg.put_new fresh, Sg.app_dict]
        rfl
      · exact ((e3.kz (kz_of sG3)).kz kz).app ⟨shn.1.kz kz, shn.2.kz kz, trivial⟩
      · rw [upd_ne (ne_of_none h nD')]
        exact sG3 _ _ (sG _ _ h)
    obtain ⟨g, e1, e2, e3, sG⟩ := p
    rw [lp, List.take_length] at e1
    have etr : g.tr = t := by rw [← Tr.of_fields g.tr, e1, Tr.of_fields]
    have xG := sG _ _ xJ3
    refine ⟨_, rfl, x, _, dx, _, rfl, xG, T.k_Shape, T.n_Shape_fields, (by show 3 < 1000; decide), ?_⟩
    refine absH fun J4 eJ4 => ?_
    have k4 : ∀ b o, G b = some o → b ≠ x → J4 b = some o := fun b o h z => by rw [eJ4, upd_ne z]; exact h
    have xJ4 : J4 x = some (.ins (He.ga K "Shape") dx [("text", .str t.text), ("tree", .ref a), ("names", .ref na), ("fields", .ref D')]) := by
      rw [eJ4, upd_same, putF_snoc (show ("fields" : Str) ∉ [("text" : Str), "tree", "names"] by decide)]
      rfl
    clear eJ4
    have k34 : ∀ b o, J3 b = some o → b ≠ x → J4 b = some o := fun b o h z => k4 _ _ (sG _ _ h) z
    have hDx : D' ≠ x := fun e => by
      rw [e, xJ3] at nD'
      cases nD'
    have D4 : J4 D' = some (.dK g.dict) := k4 _ _ e2 hDx
    have sh4 : ShL (fun b => J3 b = none ∧ b ≠ D') (He.ga K "Shape") J4 g := e3.kz fun b o h _ z => k4 _ _ h fun e => by
      rcases z with z | ⟨xs, z⟩
      · rw [e, xJ3] at z
        exact nomatch z.1
      · rw [e, xG, z] at h
        cases h
    -- spots = {'.': self}
    refine fun sa nsa => ?_
    refine ⟨_, rfl, upd_same, [(.inr ".", .ref x)], rfl, (by show 1 ≤ 15; decide), ?_⟩
    refine absH fun J5 eJ5 => ?_
    have saJ5 : J5 sa = some (.dK [(.inr ".", .ref x)]) := by rw [eJ5]; exact upd_same
    have s45 : Same J4 J5 := fun b o h => by
      have hb := ne_of_none h nsa
      rw [eJ5, upd_ne hb, upd_ne hb]
      exact h
    clear eJ5
    have sh5 : ShL (fun b => (J3 b = none ∧ b ≠ D') ∧ b ≠ sa) (He.ga K "Shape") J5 g := (sh4.imp (Z' := fun b => (J3 b = none ∧ b ≠ D') ∧ b ≠ sa) fun b z hn => ⟨z, fun e => hn (by rw [e]; exact nsa)⟩).kz (kz_of s45)
    have xJ5 := s45 _ _ xJ4
    have xsa : x ≠ sa := ne_of_none xJ4 nsa
    have D5 := s45 _ _ D4
    have Dsa : D' ≠ sa := ne_of_none D4 nsa
    have na5 : J5 na = some (.tup (t.fields.map fun m => V.str m.1)) := s45 _ _ (k34 _ _ naJ3 nax)
    have nasa : na ≠ sa := ne_of_none (k34 _ _ naJ3 nax) nsa
    refine ⟨_, rfl, x, _, dx, _, .ref na, rfl, xJ5, T.k_Shape, T.n_Shape_names, (by rfl), na, rfl, ⟨_, .inl (.inl na5)⟩, ?_⟩
    refine for_it (walk_tup (K := K) (a := na) (xs := t.fields.map fun m => V.str m.1)) (fun i σ G => ∃ (y4 y5 y6 : Option V) (g1 g2 : Sg), σ = [some (.ref x), some (.str t.text), some (.ref a), some (.ref sa), y4, y5, y6, none] ∧ g = g1.app g2 ∧ g1.tr.fields.length = i ∧ G sa = some (.dK (g1.puts [(.inr ".", .ref x)])) ∧ ∀ b o, J5 b = some o → b ≠ sa → G b = some o) ?_ (fun i σ G _ p => ?_) (fun i z σ G G' hi p y => ?_) (fun σ G p => ?_)
    · exact ⟨none, none, none, .nil, g, rfl, rfl, rfl, saJ5, fun b o h _ => h⟩
    · obtain ⟨_, _, _, _, _, _, _, _, _, k⟩ := p
      exact .inl (.inl (k _ _ na5 nasa))
    · obtain ⟨y4, y5, y6, g1, g2, rfl, eg, lg, saG, kG⟩ := p
      obtain ⟨rfl, hz⟩ := y
      rw [List.getElem?_map] at hz
      cases hm : t.fields[i]? with
      | none => rw [hm] at hz; cases hz
      | some m =>
      rw [hm] at hz
      cases hz
      have hmm := List.mem_of_getElem? hm
      have ef := Sg.app_tr g1 g2
      rw [← eg, e1] at ef
      cases g2 with
      | nil =>
        rw [show (Sg.nil).tr.fields = [] from rfl, List.append_nil] at ef
        rw [ef, List.getElem?_eq_none (by omega)] at hm
        cases hm
      | cons wd p sub r =>
      have em : m = (wd, sub.tr) := by
        rw [ef, List.getElem?_append_right (by omega), lg, Nat.sub_self] at hm
        exact (Option.some.inj hm).symm
      subst em
      have fresh : wd ∉ g1.tr.fields.map (·.1) := fun z => by
        have nd := gn
        rw [ef, List.map_append] at nd
        exact (List.nodup_append.mp nd).2.2 _ z _ (by show wd ∈ wd :: r.tr.fields.map (·.1); exact List.mem_cons_self ..) rfl
      obtain ⟨gs, gw⟩ := gf _ hmm
      obtain ⟨sd, ss, ssh⟩ := good_has gs
      have lw : wd.length ≤ 8 := (isWord_len gw).2
      have sh6 : ShL (fun b => (J3 b = none ∧ b ≠ D') ∧ b ≠ sa) (He.ga K "Shape") J5 (.cons wd p sub r) := ShL.right (g := g1) (by rw [← eg]; exact sh5)
      obtain ⟨⟨dxp, tvp, nap, fap, sp, h1, h2, h3, h4, h5, zx, zf, zs⟩, _, _⟩ := sh6
      have xsp : x ≠ sp := fun e => by
        rw [← e, xJ3] at zs
        exact nomatch zs.1.1
      have psp : p ≠ sp := fun e => by
        rw [e, h5] at h1
        cases h1
      have spG := kG _ _ h5 zs.2
      refine ⟨sp, _, spG, trivial, fun od => ?_⟩
      generalize hkv : sub.spots p = kvs at *
      have lk : kvs.length ≤ 40 := by
        rw [← hkv]
        have := puts_len sub [(.inr ".", .ref p)]
        simp only [List.length_cons, List.length_nil] at this
        have ss' : sub.tr.size ≤ 39 := ss
        exact Nat.le_trans this (by omega)
      have kk : KeyOk 40 kvs := by
        rw [← hkv]
        refine puts_ok ssh (fun m hm => ?_) (fun kv hk => ?_)
        · have := Tr.depth_lt hm
          have sd' : sub.tr.depth ≤ 3 := sd
          omega
        · simp only [List.mem_cons, List.not_mem_nil, or_false] at hk
          rw [hk]
          exact ⟨".", rfl, by rw [dot_len]; omega⟩
      have la : (g1.puts [(.inr ".", .ref x)]).length ≤ 40 := by
        have h1 := puts_len g1 [(.inr ".", .ref x)]
        have h2 := app_size g1 (.cons wd p sub r)
        rw [← eg, etr] at h2
        simp only [List.length_cons, List.length_nil] at h1
        omega
      have xG := kG _ _ xJ5 xsa
      have DG := kG _ _ D5 Dsa
      have pG := kG _ _ h1 zx.2
      have dget : DGet (upd G' sp (.frz od (.dK kvs))) D' (.str wd) (some (.ref p)) := by
        have z := DGet.k (k := .inr wd) (show (upd G' sp (.frz od (.dK kvs))) D' = some (.dK g.dict) by rw [upd_ne (Ne.symm zs.1.2)]; exact DG)
        rw [eg, valV_at fresh] at z
        exact z
      refine ⟨_, rfl, x, _, dx, _, .ref D', rfl, (by rw [upd_ne xsp]; exact xG), T.k_Shape, T.n_Shape_fields, (by rfl), _, rfl, D', .ref p, rfl, dget, p, _, dxp, _, .ref sp, rfl, (by rw [upd_ne psp]; exact pG), T.k_Shape, T.n_Shape_spots, (by rfl), sp, od, kvs, rfl, upd_same, ?_⟩
      refine for_it (walk_items (d := sp) (o := od) (kvs := kvs)) (fun j σ Gj => ∃ (y5 y6 : Option V), σ = [some (.ref x), some (.str t.text), some (.ref a), some (.ref sa), some (.str wd), y5, y6, none] ∧ Gj sp = some (.frz od (.dK kvs)) ∧
        Gj sa = some (.dK ((kvs.take j).foldl (fun a kv => putK a (Sg.ext wd kv.1) kv.2) (g1.puts [(.inr ".", .ref x)]))) ∧ ∀ b o, G' b = some o → b ≠ sa → b ≠ sp → Gj b = some o) ?_ (fun j σ Gj _ p => ?_) (fun j z σ Gj Gj' hj p y => ?_) (fun σ Gj p => ?_)
      · exact ⟨y5, y6, rfl, upd_same, by rw [upd_ne (Ne.symm zs.2)]; exact saG, fun b o h _ z => by rw [upd_ne z]; exact h⟩
      · obtain ⟨_, _, _, h, _⟩ := p
        exact h
      · obtain ⟨y5, y6, rfl, spJ, saJ, kJ⟩ := p
        obtain ⟨tt, x', y', rfl, nt, rfl, ex, ey⟩ := y
        have ex : (kvs[j]?.map fun kv => kV kv.1) = some x' := ex
        have ey : kvs[j]?.map Prod.snd = some y' := ey
        cases hkj : kvs[j]? with
        | none => rw [hkj] at ex; cases ex
        | some kv =>
        rw [hkj] at ex ey
        cases ex
        cases ey
        obtain ⟨pth, ek, lpt⟩ := kk kv (List.mem_of_getElem? hkj)
        obtain ⟨key, val⟩ := kv
        cases ek
        have ntsa : sa ≠ tt := ne_of_none saJ nt
        have ntsp : sp ≠ tt := ne_of_none spJ nt
        refine ⟨tt, _, rfl, .inl (.inl upd_same), rfl, _, _, rfl, _, _, rfl, rfl, ?_⟩
        have m01 := mulLen01 pth (!decide (V.str pth = V.str "."))
        refine ⟨_, rfl, _, rfl, _, rfl, ".", wd, rfl, rfl, sz4 (by rw [dot_len]; omega), _, rfl, _, rfl, rfl, .inr ⟨_, rfl, ?_⟩⟩
        refine ⟨pth, _, 40, 1, rfl, rfl, lpt, (by split <;> decide), (by split <;> decide), by decide, by decide, ?_⟩
        refine ⟨_, _, rfl, rfl, sz4 (Nat.le_trans (Nat.add_le_add_left (mulLen01 pth _) _) (by rw [len_app, dot_len]; omega)), ?_⟩
        have fl := fold_len wd (kvs.take j) (g1.puts [(.inr ".", .ref x)])
        rw [List.length_take] at fl
        refine ⟨sa, _, rfl, DPut.k (k := .inr _) (show (upd Gj tt (.tup [kV (.inr pth), val])) sa = some (.dK _) by rw [upd_ne ntsa]; exact saJ) (Nat.lt_of_le_of_lt (m := 1000) (by omega) (by decide)), ?_⟩
        refine ⟨_, _, rfl, ?_, ?_, fun b o h z1 z2 => ?_⟩
        · rw [upd_ne zs.2, upd_ne ntsp]
          exact spJ
        · rw [upd_same, List.take_add_one, hkj, List.foldl_append]
          show _ = some (HO.dK (putK _ (Sg.ext wd (.inr pth)) val))
          rw [ext_eq]
          rfl
        · rw [upd_ne z1, upd_ne (ne_of_none (kJ _ _ h z1 z2) nt)]
          exact kJ _ _ h z1 z2
      · obtain ⟨y5, y6, rfl, spJ, saJ, kJ⟩ := p
        refine ⟨spJ, _, _, _, g1.app (.cons wd p sub .nil), r, rfl, ?_, ?_, ?_, fun b o h z => ?_⟩
        · rw [eg, app_assoc]
          rfl
        · rw [Sg.app_tr, List.length_append, lg]
          rfl
        · rw [upd_ne (Ne.symm zs.2), saJ, List.take_length, Sg.app_puts, ← hkv]
          rfl
        · by_cases e : b = sp
          · rw [e, upd_same, ← h5, ← e]
            exact h.symm ▸ rfl
          · rw [upd_ne e]
            exact kJ _ _ (kG _ _ h z) z e
    · obtain ⟨y4, y5, y6, g1, g2, rfl, eg, lg, saG, kG⟩ := p
      rw [List.length_map] at lg
      have e2n : g2 = .nil := by
        cases g2 with
        | nil => rfl
        | cons w p s r =>
          have := congrArg List.length (Sg.app_tr g1 (.cons w p s r))
          rw [← eg, etr, List.length_append, lg] at this
          have e : (Sg.cons w p s r).tr.fields.length = r.tr.fields.length + 1 := rfl
          omega
      rw [e2n, app_nil] at eg
      subst eg
      have xG5 := kG _ _ xJ5 xsa
      refine ⟨_, rfl, _, rfl, x, _, dx, _, rfl, xG5, T.k_Shape, T.n_Shape_spots, (by show 4 < 1000; decide), ?_⟩
      refine absH fun J6 eJ6 => ?_
      have k6 : ∀ b o, G b = some o → b ≠ x → J6 b = some o := fun b o h z => by rw [eJ6, upd_ne z]; exact h
      have xJ6 : J6 x = some (.ins (He.ga K "Shape") dx [("text", .str t.text), ("tree", .ref a), ("names", .ref na), ("fields", .ref D'), ("spots", .ref sa)]) := by
        rw [eJ6, upd_same, putF_snoc (show ("spots" : Str) ∉ [("text" : Str), "tree", "names", "fields"] by decide)]
        rfl
      clear eJ6
      have kH : ∀ b o, H b = some o → b ≠ x → J6 b = some o := fun b o h z => by
        have h4 := k34 _ _ (kH3 _ _ h z) z
        exact k6 _ _ (kG _ _ (s45 _ _ h4) (ne_of_none h4 nsa)) z
      have fr : ∀ b, J3 b = none → b = x ∨ H b = none := fun b hb => by
        by_cases e : b = x
        · exact .inl e
        · cases hH : H b with
          | none => exact .inr rfl
          | some o =>
            rw [kH3 _ _ hH e] at hb
            cases hb
      have J3sa : J3 sa = none := by
        cases h3 : J3 sa with
        | none => rfl
        | some o =>
          rw [k34 _ _ h3 (Ne.symm xsa)] at nsa
          cases nsa
      have tup6 : ∀ c xs, J3 c = some (.tup xs) → J6 c = some (.tup xs) := fun c xs z => by
        have cx : c ≠ x := fun e => by
          rw [e, xJ3] at z
          cases z
        have h4 := k34 _ _ z cx
        exact k6 _ _ (kG _ _ (s45 _ _ h4) (ne_of_none h4 nsa)) cx
      refine q g J6 etr kH ⟨⟨dx, .ref a, na, D', sa, ?_, ?_, ?_, k6 _ _ (kG _ _ D5 Dsa) hDx, k6 _ _ saG (Ne.symm xsa), .inl rfl, fr _ nD', fr _ J3sa⟩, ?_⟩
      · rw [etr]
        exact xJ6
      · rw [etr]
        exact ⟨a, ps, rfl, tup6 _ _ ha3, hf3.tups tup6⟩
      · rw [etr]
        exact tup6 _ _ naJ3
      · refine ShL.imp (Z := fun b => (J3 b = none ∧ b ≠ D') ∧ b ≠ sa) (fun b z _ => fr b z.1.1) (sh5.kz fun b o h hn z => ?_)
        have hbs : b ≠ sa := by
          rcases z with z | ⟨xs, z⟩
          · exact z.2
          · intro e
            rw [e, saJ5, z] at h
            cases h
        have hbx : b ≠ x := by
          rcases z with z | ⟨xs, z⟩
          · intro e
            rw [e, xJ3] at z
            exact nomatch z.1.1
          · intro e
            rw [e, xJ5, z] at h
            cases h
        exact k6 _ _ (kG _ _ h hbs) hbx
end
end Lx

namespace Lx
open PySem PySem.Spec PyProof.Rows L2 Ub Ur Ug Ue
section
variable {P : Program} {w : World} {K : PySem.W.Frag} {mg : Str → Option Value} {base : Heap}
theorem sc_BadShape : FnScope ["self", "text"] ["self", "text"] (defScope s_BadShape___init__) := ⟨rfl, rfl, rfl, by decide +kernel, rfl, by decide +kernel, by decide +kernel⟩
theorem x_BadShape {fd : FuncData} (F : Df K ("BadShape", some "__init__") "__init__" "BadShape.__init__" s_BadShape___init__ [] fd) (T : Tx K mg) : CalX P w K mg base 1 "BadShape" (He.ga K "BadShape") "text" := by
  refine ⟨_, fd, ["self", "text"], T.x_BadShape, F.ok sc_BadShape (fun vs H Q E h => by obtain ⟨a, y, rfl, _⟩ := h; rfl) (fun cdv A outer s H vs Q E hr h => ?_), F.bindsN fun _ _ _ _ _ _ us hl => match us, hl with | [_, _], _ => rfl, T.g_BadShape⟩
  obtain ⟨a, y, rfl, ha, q⟩ := h
  exact ⟨_, PSs.nox (pss_one (ps_ost (pv 0) (pv 1))), _, rfl, _, rfl, a, _, rfl, T.x_BadShape.o, T.x_BadShape.no, .inl ⟨ha, fun dx hd hne => q dx hd hne⟩⟩
theorem sc_BadPath : FnScope ["self", "path"] ["self", "path"] (defScope s_BadPath___init__) := ⟨rfl, rfl, rfl, by decide +kernel, rfl, by decide +kernel, by decide +kernel⟩
theorem x_BadPath {fd : FuncData} (F : Df K ("BadPath", some "__init__") "__init__" "BadPath.__init__" s_BadPath___init__ [] fd) (T : Tx K mg) : CalX P w K mg base 1 "BadPath" (He.ga K "BadPath") "path" := by
  refine ⟨_, fd, ["self", "path"], T.x_BadPath, F.ok sc_BadPath (fun vs H Q E h => by obtain ⟨a, y, rfl, _⟩ := h; rfl) (fun cdv A outer s H vs Q E hr h => ?_), F.bindsN fun _ _ _ _ _ _ us hl => match us, hl with | [_, _], _ => rfl, T.g_BadPath⟩
  obtain ⟨a, y, rfl, ha, q⟩ := h
  exact ⟨_, PSs.nox (pss_one (ps_ost (pv 0) (pv 1))), _, rfl, _, rfl, a, _, rfl, T.x_BadPath.o, T.x_BadPath.no, .inl ⟨ha, fun dx hd hne => q dx hd hne⟩⟩
theorem sc_BadParameters : FnScope ["self", "parameters"] ["self", "parameters"] (defScope s_BadParameters___init__) := ⟨rfl, rfl, rfl, by decide +kernel, rfl, by decide +kernel, by decide +kernel⟩
theorem x_BadParameters {fd : FuncData} (F : Df K ("BadParameters", some "__init__") "__init__" "BadParameters.__init__" s_BadParameters___init__ [] fd) (T : Tx K mg) : CalX P w K mg base 1 "BadParameters" (He.ga K "BadParameters") "parameters" := by
  refine ⟨_, fd, ["self", "parameters"], T.x_BadParameters, F.ok sc_BadParameters (fun vs H Q E h => by obtain ⟨a, y, rfl, _⟩ := h; rfl) (fun cdv A outer s H vs Q E hr h => ?_), F.bindsN fun _ _ _ _ _ _ us hl => match us, hl with | [_, _], _ => rfl, T.g_BadParameters⟩
  obtain ⟨a, y, rfl, ha, q⟩ := h
  exact ⟨_, PSs.nox (pss_one (ps_ost (pv 0) (pv 1))), _, rfl, _, rfl, a, _, rfl, T.x_BadParameters.o, T.x_BadParameters.no, .inl ⟨ha, fun dx hd hne => q dx hd hne⟩⟩
theorem sc_BadRow : FnScope ["self", "at"] ["self", "at"] (defScope s_BadRow___init__) := ⟨rfl, rfl, rfl, by decide +kernel, rfl, by decide +kernel, by decide +kernel⟩
theorem x_BadRow {fd : FuncData} (F : Df K ("BadRow", some "__init__") "__init__" "BadRow.__init__" s_BadRow___init__ [] fd) (T : Tx K mg) : CalX P w K mg base 1 "BadRow" (He.ga K "BadRow") "at" := by
  refine ⟨_, fd, ["self", "at"], T.x_BadRow, F.ok sc_BadRow (fun vs H Q E h => by obtain ⟨a, y, rfl, _⟩ := h; rfl) (fun cdv A outer s H vs Q E hr h => ?_), F.bindsN fun _ _ _ _ _ _ us hl => match us, hl with | [_, _], _ => rfl, T.g_BadRow⟩
  obtain ⟨a, y, rfl, ha, q⟩ := h
  exact ⟨_, PSs.nox (pss_one (ps_ost (pv 0) (pv 1))), _, rfl, _, rfl, a, _, rfl, T.x_BadRow.o, T.x_BadRow.no, .inl ⟨ha, fun dx hd hne => q dx hd hne⟩⟩
theorem sc_BadLine : FnScope ["self", "at"] ["self", "at"] (defScope s_BadLine___init__) := ⟨rfl, rfl, rfl, by decide +kernel, rfl, by decide +kernel, by decide +kernel⟩
theorem x_BadLine {fd : FuncData} (F : Df K ("BadLine", some "__init__") "__init__" "BadLine.__init__" s_BadLine___init__ [] fd) (T : Tx K mg) : CalX P w K mg base 1 "BadLine" (He.ga K "BadLine") "at" := by
  refine ⟨_, fd, ["self", "at"], T.x_BadLine, F.ok sc_BadLine (fun vs H Q E h => by obtain ⟨a, y, rfl, _⟩ := h; rfl) (fun cdv A outer s H vs Q E hr h => ?_), F.bindsN fun _ _ _ _ _ _ us hl => match us, hl with | [_, _], _ => rfl, T.g_BadLine⟩
  obtain ⟨a, y, rfl, ha, q⟩ := h
  exact ⟨_, PSs.nox (pss_one (ps_ost (pv 0) (pv 1))), _, rfl, _, rfl, a, _, rfl, T.x_BadLine.o, T.x_BadLine.no, .inl ⟨ha, fun dx hd hne => q dx hd hne⟩⟩
end
end Lx

namespace Lx
open PySem PySem.Spec PyProof.Rows L2 Ub Ur Ug Ue Up Uo Ve Va Vk Rw
section
variable {P : Program} {w : World} {K : PySem.W.Frag} {mg : Str → Option Value} {base : Heap}
theorem sc_Update___init__ : FnScope ["self", "shape", "parameters", "rows", "at", "row", "word", "text", "section"] ((["self", "shape", "parameters"] : List Str) ++ (["rows"] : List Str)) (defScope s_Update___init__) := ⟨rfl, rfl, rfl, by decide +kernel, rfl, by decide +kernel, by decide +kernel⟩
theorem ok_Update {fd : FuncData} (F : Df K ("Update", some "__init__") "__init__" "Update.__init__" s_Update___init__ [] fd) (T : Tx K mg) (c_are_parameters : Cal P w K mg base 8 "are_parameters" ["parameters"] sp_arep) (c_fits_behind : Cal P w K mg base 8 "fits_behind" ["shape", "parameters", "rows", "row"] (sp_fits K (He.ga K "Shape"))) (c_read_row : Cal P w K mg base 7 "read_row" ["shape", "parameters", "row"] (sp_rrow K (He.ga K "Shape"))) (c_split_rows : Cal P w K mg base 1 "split_rows" ["rows"] sp_split) (m_Shape : CalM P w K mg base 16 "Shape" (He.ga K "Shape") ["self", "text"] (sp_shape K (He.ga K "Shape") (He.ga K "BadShape") 4)) (x_BadParameters : CalX P w K mg base 1 "BadParameters" (He.ga K "BadParameters") "parameters") (x_BadRow : CalX P w K mg base 1 "BadRow" (He.ga K "BadRow") "at") :
    FnR P w K mg base (CX P w) 18 (He.fAd K ("Update", some "__init__")) (fun vs H Q E => ∃ ws rest, vs = ws ++ rest ∧ ws.length = 3 ∧ rest.length ≤ sizeLine ∧ ∀ p, H p = none → sp_update K (He.ga K "Update") (He.ga K "Shape") (He.ga K "BadParameters") (He.ga K "BadRow") (ws ++ [V.ref p]) (upd H p (.tup rest)) Q E) := by
  refine starOk (k := 17) F sc_Update___init__ StX.cxUp (fun kV doc pm an cdv ct us rest hl => ?_) (fun cdv A outer s H vs Q E hr h => ?_)
  · match us, hl, rest with
    | [a, b, c], _, [] => rfl
    | [a, b, c], _, _ :: _ => rfl
  obtain ⟨x, dx, sh, g, Z, pvv, d, rs, rvs, os, rfl, hx, shg, gd, hd, sm, hrs, lro, lr, hrow, qP, qQ⟩ := h
  refine ⟨_, (pss_cons (ps_if (pt_not (pt_val (pe_cal c_are_parameters (hr.mono (by omega)) (by rfl) (pa_cons (pv 2) pa_nil))))
        (pss_one (ps_raiseX x_BadParameters rfl (takes_of rfl rfl rfl rfl) (hr.mono (by omega)) (by rfl) (pv 2)))
        pss_nil)
      (pss_cons (ps_for (passes_of rfl) rfl (Un.pi_enumT K (by rfl) T.enumerate (pa_cons (pv 3) pa_nil)) (pg_tupK K (n := 2) rfl (pgs_cons (pg_name (i := 4) sc_Update___init__.nd rfl (by first | exact Or.inl rfl | exact Or.inr rfl)) (pgs_cons (pg_name (i := 5) sc_Update___init__.nd rfl (by first | exact Or.inl rfl | exact Or.inr rfl)) pgs_nil)))
        (pss_one (ps_if (pt_not (pt_val (pe_cal c_fits_behind (hr.mono (by omega)) (by rfl) (pa_cons (pv 1) (pa_cons (pv 2) (pa_cons (pe_slice (sl_tupAK K) (pv 3) po_none (po_some (pv 4))) (pa_cons (pv 5) pa_nil)))))))
            (pss_one (ps_raiseX x_BadRow rfl (takes_of rfl rfl rfl rfl) (hr.mono (by omega)) (by rfl) (pv 4)))
            pss_nil)))
      (pss_cons (ps_fld (pv 0) (pv 1) rfl)
      (pss_cons (ps_fld (pv 0) (pv 2) rfl)
      (pss_cons (ps_fld (pv 0) (pe_callTy (call_tuple_ofK K) (by rfl) T.tuple (by decide +kernel) (pa_cons (pv 3) pa_nil)) rfl)
      (pss_cons (ps_fld (pv 0) (pe_lc (own := [("word", 6), ("text", 7)]) (by rfl) sc_Update___init__.nd (pi_tupK K (pv 2)) (blkOk_by (N := ["self", "shape", "parameters", "rows", "at", "row", "word", "text", "section"]) (sc := (defScope s_Update___init__)) (by decide +kernel)) (fun _ _ _ _ _ => (pg_tupK K (n := 2) rfl (pgs_cons (pg_name (i := 6) sc_Update___init__.nd rfl (by first | exact Or.inl rfl | exact Or.inr rfl)) (pgs_cons (pg_name (i := 7) sc_Update___init__.nd rfl (by first | exact Or.inl rfl | exact Or.inr rfl)) pgs_nil)))) (fun _ _ _ _ _ => pts_nil) (fun _ _ _ _ _ => (pe_tup (pa_cons (pv 6) (pa_cons (pe_makeS m_Shape (fun _ => passE0) (hr.mono (by omega)) (by rfl) (pa_cons (pv 7) pa_nil)) pa_nil))))) rfl)
      (pss_one (ps_fld (pv 0) (pe_lc (own := [("section", 8)]) (by rfl) sc_Update___init__.nd (pi_tupK K (pe_cal c_split_rows (hr.mono (by omega)) (by rfl) (pa_cons (pv 3) pa_nil))) (blkOk_by (N := ["self", "shape", "parameters", "rows", "at", "row", "word", "text", "section"]) (sc := (defScope s_Update___init__)) (by decide +kernel)) (fun _ _ _ _ _ => (pg_name (i := 8) sc_Update___init__.nd rfl (by first | exact Or.inl rfl | exact Or.inr rfl))) (fun _ _ _ _ _ => pts_nil) (fun _ _ _ _ _ => (pe_lc (own := [("row", 5)]) (by rfl) sc_Update___init__.nd (pi_tupK K (pv 8)) (by have z : BlkOk ["self", "shape", "parameters", "rows", "at", "row", "word", "text", "section"] ({ kind := .function, names := [(".0", .local), ("section", .local), ("parameters", .cell), ("shape", .cell)], isGenerator := false, isCoroutine := false } : Scope) ({ kind := .function, names := [(".0", .local), ("row", .local), ("read_row", .globalImplicit), ("parameters", .free), ("shape", .free)], isGenerator := false, isCoroutine := false } : Scope) [("row", 5)] := blkOk_by (by decide +kernel); exact z) (fun _ _ _ _ _ => (pg_name (i := 5) sc_Update___init__.nd rfl (by first | exact Or.inl rfl | exact Or.inr rfl))) (fun _ _ _ _ _ => pts_nil) (fun _ _ _ _ _ => (pe_cal c_read_row (hr.mono (by omega)) (by rfl) (pa_cons (pv 1) (pa_cons (pv 2) (pa_cons (pv 5) pa_nil)))))))) rfl)))))))), ?_⟩
  refine ⟨_, rfl, pvv, d, rfl, hd, sm, fun H1 s1 => ⟨_, rfl, ?_⟩⟩
  cases ea : areP d with
  | false => exact iteT ⟨_, rfl, mkX fun e H2 s2 ne he => qP ea e H2 (s1.trans s2) (s1.free ne) he⟩
  | true =>
    refine iteF ?_
    obtain ⟨ps, rfl, l3⟩ := areP_pairs ea
    have qq := qQ ps rfl ea
    clear qP qQ
    have shp := hd
    obtain ⟨p, qs, rfl, hp, hlq, hq⟩ := pars_at hd
    refine ⟨_, rfl, rs, rvs, rfl, .inl (.inl (s1 _ _ hrs)), ?_⟩
    refine for_it (Un.walk_enumT (K := K) (a := rs) (xs := rvs)) (fun i σ HH => ∃ y4 y5, σ = [some (.ref x), some (.ref sh), some (.ref p), some (.ref rs), y4, y5, none, none, none] ∧ Same H HH ∧ ∃ zs : List Str, rvs.take i = zs.map V.str ∧ badAt g.tr ps [] os 0 = badAt g.tr ps zs (os.drop i) i) ?_ (fun i σ HH _ pp => ?_) (fun i v σ HH HH' hi pp y => ?_) (fun σ HH pp => ?_)
    · exact ⟨none, none, rfl, s1, [], rfl, rfl⟩
    · obtain ⟨_, _, _, sH, _⟩ := pp
      exact .inl (.inl (sH _ _ hrs))
    · obtain ⟨y4, y5, rfl, sH, zs, ezs, eb⟩ := pp
      obtain ⟨tp, xi, vi, rfl, nt, rfl, ex, eq⟩ := y
      cases ex
      have hi' : i < rvs.length := hi
      have hio : i < os.length := by omega
      have eo := List.getElem?_eq_getElem hio
      obtain ⟨hv, hsc, hnn⟩ := hrow i vi _ eq eo
      have edr : os.drop i = os[i] :: os.drop (i + 1) := List.drop_eq_getElem_cons hio
      have lzs : zs.length = i := by
        have := congrArg List.length ezs
        rw [List.length_take, List.length_map] at this
        omega
      have sT := same_upd (o := .tup [.int (i : Nat), vi]) nt
      refine ⟨tp, _, rfl, .inl (.inl upd_same), rfl, _, _, rfl, _, _, rfl, rfl, ?_⟩
      refine ⟨_, rfl, _, rfl, _, rfl, _, rfl, _, rfl, ?_⟩
      refine sl_any (ws := zs.map V.str) (sT _ _ (sH _ _ hrs)) (by rw [cut_take (Nat.le_of_lt hi'), ezs]) (fun u H3 s3 hu _ => ?_)
      have sT3 := sT.trans s3
      have s03 := sH.trans sT3
      have hv3 : RowV K H3 vi os[i] := by
        cases eoi : os[i] with
        | none =>
          rw [eoi] at hv
          obtain ⟨dd, hdd, hn⟩ := hv
          exact ⟨dd, hdd.same s03, notStr_same hdd s03 hn⟩
        | some z =>
          rw [eoi] at hv
          exact hv
      refine ⟨_, rfl, sh, g, Z, .ref p, ps, u, zs, vi, os[i], rfl, shg.kz (kz_of s03), gd, shp.same s03, l3, .inl hu, by omega, hv3, hsc, hnn, fun H4 s4 => ⟨_, rfl, ?_⟩⟩
      have s04 := s03.trans s4
      have eb1 : badAt g.tr ps zs (os.drop i) i = if fitsV g.tr ps zs os[i] = true then badAt g.tr ps (zs ++ [os[i].getD Str.empty]) (os.drop (i + 1)) (i + 1) else some i := by
        rw [edr]
        rfl
      cases ef : fitsV g.tr ps zs os[i] with
      | false =>
        rw [ef, if_neg Bool.false_ne_true] at eb1
        rw [eb, eb1] at qq
        exact iteT ⟨_, rfl, mkX fun e H5 s5 ne he => qq e H5 (s04.trans s5) (s04.free ne) he⟩
      | true =>
        rw [ef, if_pos rfl] at eb1
        refine iteF ?_
        refine ⟨_, _, rfl, s04, zs ++ [os[i].getD Str.empty], ?_, by rw [eb, eb1]⟩
        cases eoi : os[i] with
        | none =>
          rw [eoi] at ef
          cases ef
        | some z =>
          rw [eoi] at hv
          rw [List.take_add_one, ezs, show rvs[i]? = some vi from eq, List.map_append, hv.1]
          rfl
    obtain ⟨y4, y5, rfl, sH, zs, ezs, eb⟩ := pp
    rw [List.take_length] at ezs
    have en : badAt g.tr ps [] os 0 = none := by
      rw [eb, lro, List.drop_length]
      rfl
    rw [en] at qq
    have qq : ∀ ks ws H', (∀ b o, H b = some o → b ≠ x → H' b = some o) → H' x = some (.ins (He.ga K "Update") dx (upF sh (.ref p) rs ks ws)) → KindsAt (fun b => H b = none) (He.ga K "Shape") H' ks ps → (∀ zs, rvs = zs.map V.str → WritAt (fun b => H b = none) K H' ws g.tr ps (secsM zs)) → Q .non H' := qq
    clear en eb
    subst ezs
    have hx1 := sH _ _ hx
    refine ⟨_, rfl, _, rfl, x, _, dx, _, rfl, hx1, T.k_Update, T.n_Update_shape, by decide, ?_⟩
    refine ⟨_, rfl, _, rfl, x, _, dx, _, rfl, upd_same, T.k_Update, T.n_Update_parameters, (by show 1 < 1000; decide), ?_⟩
    have hne : rs ≠ x := ne_of hrs hx (by intro z; cases z)
    refine ⟨_, rfl, rs, _, rfl, .inr ⟨.inl (.inl (by rw [upd_ne hne, upd_ne hne]; exact sH _ _ hrs)), ?_⟩⟩
    refine ⟨_, rfl, x, _, dx, _, rfl, upd_same, T.k_Update, T.n_Update_rows, (by show 2 < 1000; decide), ?_⟩
    refine absH fun J eJ => ?_
    have kJ : ∀ b o, H b = some o → b ≠ x → J b = some o := fun b o h z => by
      rw [eJ, upd_ne z, upd_ne z, upd_ne z]
      exact sH _ _ h
    have xJ : J x = some (.ins (He.ga K "Update") dx [("shape", .ref sh), ("parameters", .ref p), ("rows", .ref rs)]) := by
      rw [eJ, upd_same]
      rfl
    clear eJ
    have pJ := kJ _ _ hp (ne_of hp hx (by intro z; cases z))
    have rJ := kJ _ _ hrs hne
    -- kinds
    refine ⟨_, rfl, p, rfl, ⟨_, .inl (.inl pJ)⟩, fun D hD => ?_⟩
    have gps : ∀ (i : Nat) (m : Str × Str), ps[i]? = some m → ∃ t, shapeOf m.2 = some t := by
      intro i m hm
      obtain ⟨ds, e0, _, hP⟩ := areP_tup ea
      injection e0 with e0
      obtain ⟨w', z, t, e1, hsh⟩ := parP_all hP (Up.pairD m) (by rw [← e0]; exact List.mem_map.mpr ⟨m, List.mem_of_getElem? hm, rfl⟩)
      injection e1 with e1
      injection e1 with _ e1
      injection e1 with e1
      injection e1 with e1
      exact ⟨t, by rw [e1]; exact hsh⟩
    have frJ : ∀ {HX : Hp}, Same J HX → HX D ≠ none → ∀ b, HX b = none → H b = none ∧ b ≠ D := fun {HX} sX dX b hb => by
      have bx : b ≠ x := fun z => by rw [z, sX _ _ xJ] at hb; cases hb
      refine ⟨?_, fun z => dX (by rw [← z]; exact hb)⟩
      cases e : H b with
      | none => rfl
      | some o => rw [sX _ _ (kJ _ _ e bx)] at hb; cases hb
    have dH : H D = none := by
      have bx : D ≠ x := fun z => by rw [z, xJ] at hD; cases hD
      cases e : H D with
      | none => rfl
      | some o => rw [kJ _ _ e bx] at hD; cases hD
    refine lc_it (walk_tup (K := K) (a := p) (xs := qs.map V.ref)) (fun i HH => Same J HH ∧ ∃ us : List Addr, HH D = some (.lst (us.map V.ref)) ∧ us.length = i ∧ ∀ (k : Nat) (m : Str × Str), k < i → ps[k]? = some m → ∃ (q y : Addr) (gg : Sg), us[k]? = some q ∧ HH q = some (.tup [.str m.1, .ref y]) ∧ ShG (fun b => H b = none ∧ b ≠ D) (He.ga K "Shape") HH y gg ∧ gg.tr.text = m.2 ∧ good gg.tr ) ⟨same_upd hD, [], upd_same, rfl, (fun k m h => absurd h (Nat.not_lt_zero _))⟩ (fun i HH _ pp => .inl (.inl (pp.1 _ _ pJ))) (fun i v HH HH' hi pp y => ?_) (fun J2 pp => ?_)
    · obtain ⟨sK, us, hl, ll, ok⟩ := pp
      obtain ⟨rfl, hxi⟩ := y
      obtain ⟨m, q0, hm, rfl, hq0⟩ : ∃ m q, ps[i]? = some m ∧ v = .ref q ∧ H q = some (.tup [.str m.1, .str m.2]) := by
        have hlt : i < ps.length := by
          have := (List.getElem?_eq_some_iff.mp hxi).1
          rw [List.length_map] at this
          omega
        obtain ⟨q, e1, e2⟩ := hq i _ (List.getElem?_eq_getElem hlt)
        refine ⟨_, q, List.getElem?_eq_getElem hlt, ?_, e2⟩
        rw [List.getElem?_map, e1] at hxi
        exact (Option.some.inj hxi).symm
      obtain ⟨t, hsh⟩ := gps i m hm
      obtain ⟨hg, hzt⟩ := shapeOf_out hsh
      have hpi' := sK _ _ (kJ _ _ hq0 (ne_of hq0 hx (by intro z; cases z)))
      refine ⟨q0, _, rfl, .inl (.inl hpi'), rfl, _, _, rfl, _, _, rfl, rfl, rfl, ?_⟩
      refine ⟨_, rfl, _, rfl, fun x' dx' nx ndx nne => ?_⟩
      have sA : Same HH' (upd (upd HH' dx' (.own x')) x' (.ins (He.ga K "Shape") dx' [])) := (same_upd ndx).trans (same_upd (by rw [upd_ne nne.symm]; exact nx))
      refine ⟨x', .str m.2, dx', rfl, upd_same, .inl ⟨t, hg, by have := (good_has hg).1; omega, by rw [hzt], fun gg H3 egg k3 sg => ⟨rfl, ?_⟩⟩⟩
      have sB : Same HH' H3 := fun b o e => k3 b o (sA b o e) (ne_of_none e nx)
      refine ⟨(by show 2 ≤ sizeLine; decide), fun u nu => ?_⟩
      have sU := sB.trans (same_upd (o := .tup [.str m.1, .ref x']) nu)
      have hlU := sU _ _ hl
      have kM : ∀ (b : Addr) (o : HO), upd H3 u (.tup [.str m.1, .ref x']) b = some o → (∀ xs, o ≠ .lst xs) → upd (upd H3 u (.tup [.str m.1, .ref x'])) D (.lst (us.map V.ref ++ [.ref u])) b = some o := fun b o h hn => by
        rw [upd_ne (fun z => by rw [z, hlU] at h; exact hn _ (Option.some.inj h).symm)]
        exact h
      refine ⟨us.map V.ref, hlU, ?_, same_mut (sK.trans sU) hD, us ++ [u], by rw [upd_same, List.map_append]; rfl, by rw [List.length_append, ll]; rfl, fun k m' hk hm' => ?_⟩
      · rw [List.length_map, ll]
        have : i < qs.length := by rw [← List.length_map (f := V.ref)]; exact hi
        exact Nat.lt_of_lt_of_le (show i < 1000 by omega) (by decide)
      rcases Nat.lt_or_ge k i with hki | hki
      · obtain ⟨q, y, g1, e1, e2, e3, e4, e5⟩ := ok k m' hki hm'
        exact ⟨q, y, g1, by rw [List.getElem?_append_left (by omega)]; exact e1, kM _ _ (sU _ _ e2) (fun _ z => nomatch z), e3.kz (fun b o h hn _ => kM _ _ (sU _ _ h) hn), e4, e5⟩
      · have ek : k = i := by omega
        subst ek
        rw [hm] at hm'
        cases hm'
        have sgN : ShG (fun b => H b = none ∧ b ≠ D) (He.ga K "Shape") H3 x' gg := sg.imp fun b hb _ => by
          have fr := frJ sK (by rw [hl]; simp)
          rcases hb with rfl | hb
          · exact fr _ nx
          · exact fr _ (sA.free hb)
        exact ⟨u, x', gg, by rw [List.getElem?_append_right (by omega), ll, Nat.sub_self]; rfl, kM _ _ upd_same (fun _ z => nomatch z), sgN.kz (fun b o h hn _ => kM _ _ (same_upd nu _ _ h) hn), by rw [egg, hzt], by rw [egg]; exact hg⟩
    obtain ⟨sK, us, hl, ll, ok⟩ := pp
    refine ⟨_, rfl, x, _, dx, _, rfl, sK _ _ xJ, T.k_Update, T.n_Update_kinds, (by show 3 < 1000; decide), ?_⟩
    refine absH fun J3 eJ3 => ?_
    have kJ3 : ∀ b o, J2 b = some o → b ≠ x → J3 b = some o := fun b o h z => by
      rw [eJ3, upd_ne z]
      exact h
    have xJ3 : J3 x = some (.ins (He.ga K "Update") dx [("shape", .ref sh), ("parameters", .ref p), ("rows", .ref rs), ("kinds", .ref D)]) := by
      rw [eJ3, upd_same]
      rfl
    clear eJ3
    have rJ3 := kJ3 _ _ (sK _ _ rJ) hne
    -- writings
    have lz100 : zs.length ≤ 100 := by rw [List.length_map] at lr; exact lr
    refine ⟨_, rfl, rs, zs, rfl, rJ3, by omega, fun v J4 s4 hv4 => ?_⟩
    obtain ⟨q0, cs, rfl, hq0, lcs, hcs⟩ := secs_at2 hv4
    have lsec := secs_len zs
    refine ⟨q0, rfl, ⟨_, .inl (.inl hq0)⟩, fun D2 hD2 => ?_⟩
    have kH4 : ∀ b o, H b = some o → b ≠ x → J4 b = some o := fun b o h z => s4 _ _ (kJ3 _ _ (sK _ _ (kJ _ _ h z)) z)
    have sg4 := shg_through hx (by decide) kH4 shg
    have sp4 := dt_through hx kH4 shp
    have frK : ∀ {HX : Hp}, Same J4 HX → ∀ b, HX b = none → H b = none := fun {HX} sX b hb => by
      have bx : b ≠ x := fun z => by rw [z, sX _ _ (s4 _ _ xJ3)] at hb; cases hb
      cases e : H b with
      | none => rfl
      | some o => rw [sX _ _ (kH4 _ _ e bx)] at hb; cases hb
    refine lc_it (walk_tup (K := K) (a := q0) (xs := cs.map V.ref)) (fun i HH => Same J4 HH ∧ ∃ l : List Addr, HH D2 = some (.lst (l.map V.ref)) ∧ l.length = i ∧ ∀ (k : Nat) (r : List Str), k < i → (secsM zs)[k]? = some r → ∃ c, l[k]? = some c ∧ SecAt (fun b => H b = none ∧ b ≠ D2) K HH c g.tr ps r) ⟨same_upd hD2, [], upd_same, rfl, fun k m h => absurd h (Nat.not_lt_zero _)⟩ (fun i HH _ pp => .inl (.inl (pp.1 _ _ hq0))) (fun i v HH HH' hi pp y => ?_) (fun J5 pp => ?_)
    · obtain ⟨sL, lst, hl, ll, ok2⟩ := pp
      obtain ⟨rfl, hxi⟩ := y
      have hics : i < (secsM zs).length := by rw [← lcs, ← List.length_map (f := V.ref)]; exact hi
      obtain ⟨r, hri⟩ : ∃ r, (secsM zs)[i]? = some r := ⟨_, List.getElem?_eq_getElem hics⟩
      obtain ⟨c, hci, hc⟩ := hcs i r hri
      obtain ⟨lr', hr'⟩ := secs_mem (List.mem_of_getElem? hri)
      obtain rfl : v = .ref c := by
        rw [List.getElem?_map, hci] at hxi
        exact (Option.some.inj hxi).symm
      refine ⟨rfl, _, rfl, c, rfl, ⟨_, .inl (.inl (sL _ _ hc))⟩, fun D3 hD3 => ?_⟩
      refine lc_it (walk_tup (K := K) (a := c) (xs := r.map V.str)) (fun i HH => Same HH' HH ∧ ∃ l : List V, HH D3 = some (.lst l) ∧ l.length = i ∧ ∀ (k : Nat) (z : Str), k < i → r[k]? = some z → ∃ v, l[k]? = some v ∧ RowVal K HH v (rowM g.tr ps z)) ⟨same_upd hD3, [], upd_same, rfl, fun k m h => absurd h (Nat.not_lt_zero _)⟩ (fun i HH _ pp => .inl (.inl (pp.1 _ _ (sL _ _ hc)))) (fun j v HJ HJ' hj pp y => ?_) (fun J6 pp => ?_)
      · obtain ⟨sM, lst2, hl2, ll2, ok3⟩ := pp
        obtain ⟨rfl, hxj⟩ := y
        have hjr : j < r.length := by rw [← List.length_map (f := V.str)]; exact hj
        obtain ⟨z, hzj⟩ : ∃ z, r[j]? = some z := ⟨_, List.getElem?_eq_getElem hjr⟩
        have hzm := List.mem_of_getElem? hzj
        obtain rfl : v = .str z := by
          rw [List.getElem?_map, hzj] at hxj
          exact (Option.some.inj hxj).symm
        have s4j := sL.trans sM
        have lzz : z.length ≤ 100000 := by
          obtain ⟨n, hn⟩ := List.mem_iff_getElem?.mp (hr' z hzm)
          have hn' : (zs.map V.str)[n]? = some (.str z) := by rw [List.getElem?_map, hn]; rfl
          have hno : n < os.length := by
            have := (List.getElem?_eq_some_iff.mp hn').1
            omega
          have := (hrow n _ _ hn' (List.getElem?_eq_getElem hno)).1
          cases eo : os[n] with
          | none =>
            rw [eo] at this
            obtain ⟨dd, hdd, hnn⟩ := this
            cases hdd
            exact absurd rfl (notStr_data (N := []) (.str z) hnn z)
          | some z' =>
            rw [eo] at this
            obtain ⟨e, l⟩ := this
            cases e
            exact l
        have lD3 : lst2.length < sizeLine := by
          rw [ll2]
          exact Nat.lt_of_lt_of_le (show j < 1000 by omega) (by decide)
        have step : ∀ {H7 : Hp} {y : V}, Same HJ' H7 → RowVal K H7 y (rowM g.tr ps z) → ∀ (k : Nat) (z' : Str), k < j + 1 → r[k]? = some z' → ∃ v, (lst2 ++ [y])[k]? = some v ∧ RowVal K (upd H7 D3 (.lst (lst2 ++ [y]))) v (rowM g.tr ps z') := fun {H7 y} s7 hy k z' hk hz' => by
          have kM : ∀ (b C dx : Addr) (fs : List (Str × V)), H7 b = some (.ins C dx fs) → fs.length = 3 → (upd H7 D3 (.lst (lst2 ++ [y]))) b = some (.ins C dx fs) := fun b C dx fs h _ => by
            rw [upd_ne (fun q => by rw [q, s7 _ _ hl2] at h; cases h)]
            exact h
          rcases Nat.lt_or_ge k j with hkj | hkj
          · obtain ⟨v, e, hv⟩ := ok3 k z' hkj hz'
            refine ⟨v, by rw [List.getElem?_append_left (by omega)]; exact e, RowVal.keep kM (hv.keep fun b _ _ _ h _ => s7 _ _ h)⟩
          · have ek : k = j := by omega
            subst ek
            rw [hzj] at hz'
            cases hz'
            exact ⟨y, by rw [List.getElem?_append_right (by omega), ll2, Nat.sub_self]; rfl, hy.keep kM⟩
        refine ⟨rfl, _, rfl, _, rfl, _, rfl, sh, g, _, .ref p, ps, .str z, some z, rfl, sg4.kz (kz_of s4j), gd, sp4.same s4j, l3, ⟨rfl, lzz⟩, fun H7 s7 => ?_⟩
        show (match rowM g.tr ps z with | none => _ | some r => _)
        cases er : rowM g.tr ps z with
        | none =>
          refine ⟨lst2, s7 _ _ hl2, lD3, same_mut (sM.trans s7) hD3, lst2 ++ [_], upd_same, by rw [List.length_append, ll2]; rfl, step s7 ?_⟩
          rw [er]
          rfl
        | some rr =>
          refine fun p7 hp7 => ⟨lst2, s7 _ _ hl2, lD3, same_mut (sM.trans s7) hD3, lst2 ++ [_], upd_same, by rw [List.length_append, ll2]; rfl, step s7 ?_⟩
          rw [er]
          exact ⟨p7, rfl, hp7⟩
      obtain ⟨sM, lst2, hl2, ll2, ok3⟩ := pp
      have ll2 : lst2.length = r.length := by rw [ll2, List.length_map]
      have D23 : D3 ≠ D2 := fun z => by rw [z, hl] at hD3; cases hD3
      refine ⟨lst.map V.ref, sM _ _ hl, ?_, same_mut (sL.trans sM) hD2, lst ++ [D3], by rw [upd_same, List.map_append]; rfl, by rw [List.length_append, ll]; rfl, fun k r' hk hr2 => ?_⟩
      · rw [List.length_map, ll]
        exact Nat.lt_of_lt_of_le (show i < 1000 by omega) (by decide)
      have kM : ∀ (b C dx : Addr) (fs : List (Str × V)), J6 b = some (.ins C dx fs) → fs.length = 3 → (upd J6 D2 (.lst (lst.map V.ref ++ [.ref D3]))) b = some (.ins C dx fs) := fun b C dx fs h _ => by
        rw [upd_ne (fun q => by rw [q, sM _ _ hl] at h; cases h)]
        exact h
      have kL : ∀ (b : Addr) (xs : List V), J6 b = some (.lst xs) → (H b = none ∧ b ≠ D2) → (upd J6 D2 (.lst (lst.map V.ref ++ [.ref D3]))) b = some (.lst xs) := fun b xs h hz => by
        rw [upd_ne hz.2]
        exact h
      rcases Nat.lt_or_ge k i with hki | hki
      · obtain ⟨c', e, hs⟩ := ok2 k r' hki hr2
        exact ⟨c', by rw [List.getElem?_append_left (by omega)]; exact e, (hs.keep (Z' := fun b => H b = none ∧ b ≠ D2) (fun b _ _ _ h _ => sM _ _ h) (fun b xs h _ => sM _ _ h) (fun _ z _ => z)).keep kM kL fun _ z _ => z⟩
      · have ek : k = i := by omega
        subst ek
        rw [hri] at hr2
        cases hr2
        refine ⟨D3, by rw [List.getElem?_append_right (by omega), ll, Nat.sub_self]; rfl, ?_⟩
        have sc : SecAt (fun b => H b = none ∧ b ≠ D2) K J6 D3 g.tr ps r := ⟨⟨frK sL _ hD3, D23⟩, lst2, hl2, ll2, fun n z hn => ok3 n z (by have := (List.getElem?_eq_some_iff.mp hn).1; rw [List.length_map]; omega) hn⟩
        exact sc.keep kM kL fun _ z _ => z
    obtain ⟨sL, lst2, hl2, ll2, ok2⟩ := pp
    have s35 := s4.trans sL
    refine ⟨_, rfl, x, _, dx, _, rfl, s35 _ _ xJ3, T.k_Update, T.n_Update_writings, (by show 4 < 1000; decide), ?_⟩
    have kF : ∀ b o, H b = some o → b ≠ x → (upd J5 x (.ins (He.ga K "Update") dx (upF sh (.ref p) rs D D2))) b = some o := fun c o h z => by
      rw [upd_ne z]
      exact s35 _ _ (kJ3 _ _ (sK _ _ (kJ _ _ h z)) z)
    refine qq D D2 _ kF ?_ ?_ ?_
    · rw [upd_same]
      rfl
    · have kF2 : ∀ b o, J2 b = some o → b ≠ x → (upd J5 x (.ins (He.ga K "Update") dx (upF sh (.ref p) rs D D2))) b = some o := fun c o h z => by
        rw [upd_ne z]
        exact s35 _ _ (kJ3 _ _ h z)
      have x2 := sK _ _ xJ
      refine ⟨dH, us, kF2 _ _ hl (ne_of hl x2 (by intro z; cases z)), by rw [ll, List.length_map, hlq], fun i m hm => ?_⟩
      obtain ⟨q, y, gg, e1, e2, e3, e4, e5⟩ := ok i m (by rw [List.length_map, hlq]; exact (List.getElem?_eq_some_iff.mp hm).1) hm
      exact ⟨q, y, gg, e1, kF2 _ _ e2 (ne_of e2 x2 (by intro z; cases z)), (shg_through x2 (by show 3 ≠ 5; decide) kF2 e3).imp fun b hb _ => hb.1.1, e4, e5⟩
    · intro zs' ez
      obtain rfl := strs_inj ez
      have x5 := s35 _ _ xJ3
      have kF3 : ∀ b o, J5 b = some o → b ≠ x → (upd J5 x (.ins (He.ga K "Update") dx (upF sh (.ref p) rs D D2))) b = some o := fun c o h z => by
        rw [upd_ne z]
        exact h
      refine ⟨frK (Same.refl _) _ hD2, lst2, kF3 _ _ hl2 (ne_of hl2 x5 (by intro z; cases z)), by rw [ll2, List.length_map, lcs], fun i r hr => ?_⟩
      obtain ⟨c, e, hs⟩ := ok2 i r (by rw [List.length_map, lcs]; exact (List.getElem?_eq_some_iff.mp hr).1) hr
      refine ⟨c, e, hs.keep (fun b C' dx' fs h h3 => kF3 _ _ h fun z => ?_) (fun b xs h _ => kF3 _ _ h (ne_of h x5 (by intro z; cases z))) fun b z _ => z.1⟩
      rw [z, x5] at h
      injection h with h
      injection h with _ _ h
      rw [← h] at h3
      exact absurd h3 (by show ¬ (4 = 3); decide)
end
end Lx

namespace Lx
open PySem PySem.Spec PyProof.Rows L2 Ub Ur Ug Ue Up Uo Ve Va Vk Rw
section
variable {P : Program} {w : World} {K : PySem.W.Frag} {mg : Str → Option Value} {base : Heap}
theorem sc_read_parameters : FnScope ["text", "found", "at", "word", "tree", "here"] ["text"] (defScope s_read_parameters) := ⟨rfl, rfl, rfl, by decide +kernel, rfl, by decide +kernel, by decide +kernel⟩
theorem ok_read_parameters {fd : FuncData} (F : Df K ("read_parameters", none) "read_parameters" "read_parameters" s_read_parameters [] fd) (T : Tx K mg) (c_scan_word : Cal P w K mg base 2 "scan_word" ["text", "at"] sp_scan_word) (c_scan_shape2 : CalD P w K mg base 6 "scan_shape" ["text", "at", "floors"] [.int 3] (sp_scan 4)) (c_text_of : Cal P w K mg base 4 "text_of" ["tree"] (sp_tree 4 fun t => .str t.text)) :
    FnOk P w K mg base CX0 7 (He.ga K "read_parameters") fd ["text"] sp_rpars := by
  refine F.ok sc_read_parameters (fun vs H Q E h => by obtain ⟨_, rfl, _⟩ := h; rfl) (fun cdv A outer s H vs Q E hr h => ?_)
  obtain ⟨z, rfl, hz, q⟩ := h
  refine ⟨_, PSs.nox (pss_cons (ps_set (i := 1) sc_read_parameters.nd rfl (by first | exact Or.inl rfl | exact Or.inr rfl) (pe_lst pa_nil))
      (pss_cons (ps_set (i := 2) sc_read_parameters.nd rfl (by first | exact Or.inl rfl | exact Or.inr rfl) pe_int)
      (pss_cons (ps_while PassesOwn.never (pt_cmpR op_lt (pv 2) (pe_callB call_len_str (by rfl) T.len (by decide +kernel) (pa_cons (pv 0) pa_nil)) (nomark _))
        (pss_cons (ps_set (i := 3) sc_read_parameters.nd rfl (by first | exact Or.inl rfl | exact Or.inr rfl) (pe_cal c_scan_word (hr.mono (by omega)) (by rfl) (pa_cons (pv 0) (pa_cons (pv 2) pa_nil))))
          (pss_cons (ps_if (PW.pt (pw_or (pt_cmpR op_isN (pv 3) pe_non (nomark _)) (pw_or1 (pt_cmpR op_eq (pe_callB (call_len_seqK K) (by rfl) T.len (by decide +kernel) (pa_cons (pv 1) pa_nil)) (pe_globI (by rfl) T.c_MOST_PARAMETERS) (nomark _)))))
            (pss_one (ps_ret pe_non))
            pss_nil)
          (pss_cons (ps_asg (pe_calD c_scan_shape2 (hr.mono (by omega)) (by rfl) (pa_cons (pv 0) (pa_cons (pe_op op_add (pe_op op_add (pv 2) (pe_callB call_len_str (by rfl) T.len (by decide +kernel) (pa_cons (pv 3) pa_nil))) pe_int) pa_nil))) (pg_tupK K (n := 2) rfl (pgs_cons (pg_name (i := 4) sc_read_parameters.nd rfl (by first | exact Or.inl rfl | exact Or.inr rfl)) (pgs_cons (pg_name (i := 5) sc_read_parameters.nd rfl (by first | exact Or.inl rfl | exact Or.inr rfl)) pgs_nil))))
          (pss_cons (ps_if (pt_cmpR op_isN (pv 4) pe_non (nomark _))
            (pss_one (ps_ret pe_non))
            pss_nil)
          (pss_cons (ps_expr (pe_bmK K PySem.F.plainAttrs_list PySem.F.slot_list_append PySem.F.type_list_append mt_append (pv 1) (pa_cons (pe_tup (pa_cons (pv 3) (pa_cons (pe_cal c_text_of (hr.mono (by omega)) (by rfl) (pa_cons (pv 4) pa_nil)) pa_nil))) pa_nil)))
          (pss_cons (ps_if (pt_cmpR op_eq (pv 5) (pe_callB call_len_str (by rfl) T.len (by decide +kernel) (pa_cons (pv 0) pa_nil)) (nomark _))
            (pss_one (ps_ret (pe_callTy (call_tuple_ofK K) (by rfl) T.tuple (by decide +kernel) (pa_cons (pv 1) pa_nil))))
            pss_nil)
          (pss_cons (ps_if (pt_cmpR op_ne (pe_slice sl_str (pv 0) (po_some (pv 5)) (po_some (pe_op op_add (pv 5) pe_int))) pe_str (nomark _))
            (pss_one (ps_ret pe_non))
            pss_nil)
          (pss_one (ps_set (i := 2) sc_read_parameters.nd rfl (by first | exact Or.inl rfl | exact Or.inr rfl) (pe_op op_add (pv 5) pe_int)))))))))))
      (pss_one (ps_ret (pe_ifExp (pt_cmpR op_eq (pv 0) pe_str (nomark _)) (pe_tup pa_nil) pe_non)))))), ?_⟩
  refine ⟨Nat.zero_le _, fun b nb => ?_⟩
  refine ⟨fun m σ H1 => ∃ ps us here n y3 y4 y5, m = n ∧ σ = [some (.str z), some (.ref b), some (.int (here : Nat)), y3, y4, y5] ∧ RpI H H1 z b ps us here n, ⟨3, [], [], 0, 3, none, none, none, rfl, rfl, same_upd nb, upd_same, .nil, rfl, Nat.zero_le _, ?_⟩, ?_⟩
  · rw [List.drop_zero]
    cases parsS 3 (cs z) <;> rfl
  rintro m σ H1 ⟨ps, us, here, n, y3, y4, y5, rfl, rfl, I⟩
  obtain ⟨same, hb, hd, num, le, go⟩ := I
  have lus : us.length = ps.length := by rw [hd.len, List.length_map]
  have zn : z.length ≠ 0 → z ≠ "" := fun h e => h (by rw [e]; rfl)
  refine ⟨_, rfl, _, rfl, z, rfl, sz5 hz, _, _, rfl, rfl, _, rfl, ?_⟩
  by_cases hlt : here < z.length
  rotate_left
  · -- the end of the text
    refine iteN (by omega) ?_
    refine ⟨_, rfl, rfl, _, rfl, ?_⟩
    by_cases ez : z = ""
    · refine iteY (by rw [ez]) ⟨Nat.zero_le _, fun p np => ?_⟩
      have := q _ (same.trans (same_upd (o := .tup []) np))
      unfold readPs at this
      rw [if_pos ez] at this
      exact this _ (.tup upd_same (by simp) .nil)
    · refine iteN (fun e => ez (V.str.inj e)) ?_
      have := q _ same
      unfold readPs at this
      rw [if_neg ez, go, List.drop_of_length_le (by rw [cs_len]; omega), parsS_nil] at this
      exact this
  refine iteY (by omega) ?_
  have ez : z ≠ "" := zn (by omega)
  have bad : parsS m ((cs z).drop here) = none → ∀ H', Same H H' → Q .non H' := fun e H' s => by
    have := q _ s
    unfold readPs at this
    rw [if_neg ez, go, e] at this
    exact this
  refine ⟨fun σ' H' => ∃ ps us here n y3 y4 y5, n < m ∧ σ' = [some (.str z), some (.ref b), some (.int (here : Nat)), y3, y4, y5] ∧ RpI H H' z b ps us here n, ?_, ?_⟩
  · rintro σ' H' ⟨ps', us', here', n', y3', y4', y5', hl', rfl, I'⟩
    exact ⟨n', hl', ps', us', here', n', y3', y4', y5', rfl, rfl, I'⟩
  refine ⟨_, rfl, _, rfl, z, here, rfl, hz, le, fun H2 s2 => ?_⟩
  have same2 := same.trans s2
  cases hw : scanW ((cs z).drop here) with
  | none =>
    refine ⟨_, rfl, rfl, _, rfl, ?_⟩
    exact iteY rfl (iteT (bad (parsS_none1 hw) H2 same2))
  | some wd =>
    obtain ⟨gw, r0, hr0⟩ := scanW_some hw
    have w8 := (isWord_len gw).2
    have hlr : ((cs z).drop here).length = wd.length + (r0.length + 2) := by
      rw [hr0, List.length_append, cs_len]
      rfl
    rw [List.length_drop, cs_len] at hlr
    refine ⟨_, rfl, rfl, _, rfl, ?_⟩
    refine iteN (fun z => nomatch z) ?_
    refine ⟨_, rfl, b, us, rfl, .inl (.inl (.inl (s2 _ _ hb))), rfl, _, rfl, ?_⟩
    by_cases h3 : us.length = 3
    · refine iteY (by rw [h3]; rfl) ?_
      have hm0 : m = 0 := by omega
      exact bad (by rw [hm0]; rfl) H2 same2
    refine iteN (fun e => h3 (by have := V.int.inj e; omega)) ?_
    obtain ⟨n', rfl⟩ : ∃ n', m = n' + 1 := ⟨m - 1, by omega⟩
    -- tree, here = scan_shape(..)
    refine ⟨_, rfl, _, rfl, _, rfl, wd, rfl, sz5 (by omega), _, _, rfl, rfl, _, _, rfl, rfl, z, here + wd.length + 2, 3, ?_, hz, by omega, by omega, by omega, fun H4 p s4 out => ?_⟩
    · have e1 : ((here : Int) + (wd.length : Int)) + 2 = ((here + wd.length + 2 : Nat) : Int) := by omega
      show [V.str z, V.int (((here : Int) + (wd.length : Int)) + 2), V.int 3] = _
      rw [e1]
      rfl
    have same4 := same2.trans s4
    have hdd : ((cs z).drop here).drop (wd.length + 2) = (cs z).drop (here + wd.length + 2) := by
      rw [List.drop_drop, Nat.add_assoc]
    cases hsc2 : scanS 3 ((cs z).drop (here + wd.length + 2)) with
    | none =>
      rw [hsc2] at out
      have out : H4 p = some (.tup [.non, .int ((here + wd.length + 2 : Nat) : Int)]) := out
      refine ⟨p, _, rfl, .inl (.inl out), rfl, _, _, rfl, _, _, rfl, rfl, ?_⟩
      refine ⟨_, rfl, rfl, _, rfl, ?_⟩
      exact iteY rfl (bad (parsS_none2 hw (by rw [hdd]; exact hsc2)) H4 same4)
    | some pr =>
      obtain ⟨t, r⟩ := pr
      rw [hsc2] at out
      obtain ⟨qv, ht, hp⟩ := out
      obtain ⟨fine, hpre⟩ := scanS_out _ _ _ _ hsc2
      have hall : cs z = ((cs z).take (here + wd.length + 2) ++ tcs t) ++ r := by
        rw [List.append_assoc, ← hpre, List.take_append_drop]
      have hrl : r.length ≤ z.length := by
        have := congrArg List.length hall
        rw [List.length_append, cs_len] at this
        omega
      have hdr : (cs z).drop (z.length - r.length) = r := by
        have := drop_suf hall
        rwa [cs_len] at this
      generalize hn2 : z.length - r.length = here2 at hp hdr
      have le2 : here2 ≤ z.length := by omega
      have hr2 : r.length = z.length - here2 := by omega
      have hst : parsS (n' + 1) ((cs z).drop here) = nextP n' wd t r := parsS_step hw (by rw [hdd]; exact hsc2)
      rw [hst] at go bad
      obtain ⟨f1, f2, f3⟩ := fine_has 3 t fine
      have f2 := Nat.le_trans f2 (bnd3 (Nat.le_refl _))
      refine ⟨p, _, rfl, .inl (.inl hp), rfl, _, _, rfl, _, _, rfl, rfl, ?_⟩
      have nv : qv ≠ .non := by
        obtain ⟨a, ps, e, _⟩ := ht
        rw [e]
        exact fun z => nomatch z
      refine ⟨_, rfl, rfl, _, rfl, ?_⟩
      refine iteN nv ?_
      -- found.append(..)
      have hb4 : H4 b = some (.lst us) := s4 _ _ (s2 _ _ hb)
      refine ⟨_, rfl, .inl ⟨rfl, _, .inl (.inl hb4)⟩, ?_⟩
      refine ⟨_, rfl, _, rfl, t, qv, rfl, ht, by omega, by omega, f3, fun H5 s5 => ⟨(by show 2 ≤ sizeLine; decide), fun u nu => ?_⟩⟩
      have su := same_upd (o := .tup [.str wd, .str t.text]) nu
      have hb6 := su _ _ (s5 _ _ hb4)
      have same6 := (same4.trans s5).trans su
      refine ⟨b, us, _, rfl, rfl, hb6, small1000 (by omega), ?_⟩
      have hub : u ∉ [b] := fun h => by
        rw [List.mem_singleton] at h
        rw [h, s5 _ _ hb4] at nu
        cases nu
      have d6 : DtVs [b] (upd H5 u (.tup [.str wd, .str t.text])) (us ++ [.ref u]) ((ps ++ [(wd, t.text)]).map Up.pairD) := by
        rw [List.map_append]
        exact Ur.DtVs.app (hd.same (((s2.trans s4).trans s5).trans su)) (.cons (.tup upd_same hub (.cons (.str _) (.cons (.str _) .nil))) .nil)
      generalize upd H5 u (.tup [.str wd, .str t.text]) = H6 at *
      have d7 : DtVs [b] (upd H6 b (.lst (us ++ [.ref u]))) (us ++ [.ref u]) ((ps ++ [(wd, t.text)]).map Up.pairD) := d6.keep fun c o e n => by
        rw [upd_ne (fun h => n (by rw [h]; simp))]
        exact e
      have same7 : Same H (upd H6 b (.lst (us ++ [.ref u]))) := fun c o e => by
        rw [upd_ne (ne_of_none e nb)]
        exact same6 _ _ e
      have hb7 : (upd H6 b (.lst (us ++ [.ref u]))) b = some (.lst (us ++ [.ref u])) := upd_same
      refine absH fun H7 eH => ?_
      rw [← eH] at d7 same7 hb7
      clear eH d6 same6 hb6 su hub nu
      have en : (nextP n' wd t r).map (ps ++ ·) = readPs z := by
        unfold readPs
        rw [if_neg ez, go]
      rw [← en] at q
      refine ⟨_, rfl, _, rfl, z, rfl, sz5 hz, rfl, _, rfl, ?_⟩
      by_cases e5 : here2 = z.length
      · have hr0 : r = [] := List.length_eq_zero_iff.mp (by omega)
        refine iteY (by rw [e5]) ⟨_, rfl, b, _, rfl, .inl ⟨.inl (.inl hb7), fun p np => ?_⟩⟩
        rw [hr0] at q
        have sp := same_upd (o := .tup (us ++ [.ref u])) np
        have := q _ (same7.trans sp)
        refine this _ (.tup upd_same (by simp) ?_)
        exact (d7.same sp).free
      refine iteN (fun h => e5 (by have := V.int.inj h; omega)) ?_
      have hrn : r ≠ [] := fun h => e5 (by rw [h] at hr2; simp at hr2; omega)
      refine ⟨_, rfl, _, rfl, _, rfl, _, rfl, _, _, rfl, rfl, _, rfl, z, rfl, sz5 hz, rfl, _, rfl, ?_⟩
      have ec := cut2_eq (z := z) (x := ", ") le2 cs_comma
      refine iteE (c := !decide (((cs z).drop here2).take 2 = [44, 32])) (by rw [← ec]) (fun e7 => ?_) (fun e7 => ?_)
      · have e7 : ¬ ((cs z).drop here2).take 2 = [44, 32] := by simpa using e7
        rw [hdr] at e7
        exact bad (nextP_bad hrn e7) H7 same7
      have e7 : ((cs z).drop here2).take 2 = [44, 32] := by simpa using e7
      rw [hdr] at e7
      obtain ⟨r', hr'⟩ := take2_head e7
      have hl' : r.length = r'.length + 2 := by rw [hr']; rfl
      refine ⟨_, rfl, _, _, rfl, rfl, ps ++ [(wd, t.text)], _, here2 + 2, n', some (.str wd), some qv, some (.int (here2 : Nat)), Nat.lt_succ_self _, ?_, same7, hb7, d7, ?_, by omega, ?_⟩
      · have e8 : ((here2 + 2 : Nat) : Int) = (here2 : Int) + 2 := by omega
        rw [e8]
        rfl
      · rw [List.length_append]
        show ps.length + 1 + n' = 3
        omega
      · rw [go, ← List.drop_drop, hdr, hr']
        show Option.map _ (Option.map _ (parsS n' r')) = Option.map _ (parsS n' r')
        cases parsS n' r' with
        | none => rfl
        | some l => show some (ps ++ (wd, t.text) :: l) = some ((ps ++ [(wd, t.text)]) ++ l); rw [List.append_assoc]; rfl
end
end Lx

namespace Lx
open PySem PySem.Spec PyProof.Rows L2 Ub Ur Ug Ue Up Uo Ve Va Vk Rw
section
variable {P : Program} {w : World} {K : PySem.W.Frag} {mg : Str → Option Value} {base : Heap}
theorem sc_read_head : FnScope ["line", "name", "sign", "text", "parameters"] ["line"] (defScope s_read_head) := ⟨rfl, rfl, rfl, by decide +kernel, rfl, by decide +kernel, by decide +kernel⟩
theorem ok_read_head {fd : FuncData} (F : Df K ("read_head", none) "read_head" "read_head" s_read_head [] fd) (T : Tx K mg) (c_read_parameters : Cal P w K mg base 7 "read_parameters" ["text"] sp_rpars) (c_is_word : Cal P w K mg base 1 "is_word" ["text"] (sp_is_word K)) (c_are_parameters : Cal P w K mg base 8 "are_parameters" ["parameters"] sp_arep) :
    FnOk P w K mg base CX0 9 (He.ga K "read_head") fd ["line"] sp_rhead := by
  refine F.ok sc_read_head (fun vs H Q E h => by obtain ⟨_, rfl, _⟩ := h; rfl) (fun cdv A outer s H vs Q E hr h => ?_)
  obtain ⟨z, rfl, hz, q⟩ := h
  refine ⟨_, PSs.nox (pss_cons (ps_if (PW.pt (pw_or (pt_not (pt_val (pe_m1 PySem.F.slot_str_startswith PySem.F.type_str_startswith mt_startswith (pv 0) pe_str))) (pw_or1 (pt_not (pt_val (pe_m1 PySem.F.slot_str_endswith PySem.F.type_str_endswith mt_endswith (pv 0) pe_str))))))
        (pss_one (ps_ret pe_non))
        pss_nil)
      (pss_cons (ps_asg (pe_partition (pe_slice sl_str (pv 0) (po_some pe_int) (po_some (pe_un un_neg pe_int))) pe_str) (pg_tupK K (n := 3) rfl (pgs_cons (pg_name (i := 1) sc_read_head.nd rfl (by first | exact Or.inl rfl | exact Or.inr rfl)) (pgs_cons (pg_name (i := 2) sc_read_head.nd rfl (by first | exact Or.inl rfl | exact Or.inr rfl)) (pgs_cons (pg_name (i := 3) sc_read_head.nd rfl (by first | exact Or.inl rfl | exact Or.inr rfl)) pgs_nil)))))
      (pss_cons (ps_if (PW.pt (pw_or (pt_cmpR op_eq (pv 2) pe_str (nomark _)) (pw_or1 (pt_not (pt_val (pe_cal c_is_word (hr.mono (by omega)) (by rfl) (pa_cons (pv 1) pa_nil)))))))
        (pss_one (ps_ret pe_non))
        pss_nil)
      (pss_cons (ps_set (i := 4) sc_read_head.nd rfl (by first | exact Or.inl rfl | exact Or.inr rfl) (pe_cal c_read_parameters (hr.mono (by omega)) (by rfl) (pa_cons (pv 3) pa_nil)))
      (pss_cons (ps_if (PW.pt (pw_or (pt_cmpR op_isN (pv 4) pe_non (nomark _)) (pw_or1 (pt_not (pt_val (pe_cal c_are_parameters (hr.mono (by omega)) (by rfl) (pa_cons (pv 4) pa_nil)))))))
        (pss_one (ps_ret pe_non))
        pss_nil)
      (pss_one (ps_ret (pe_tup (pa_cons (pv 1) (pa_cons (pv 4) pa_nil)))))))))), ?_⟩
  unfold rheadM at q
  refine ⟨_, rfl, ⟨_, rfl⟩, _, _, rfl, rfl, _, rfl, ?_⟩
  cases e1 : Txt.startswith z "update " with
  | false =>
    have := q _ (Same.refl _)
    rw [if_neg (fun h => by rw [e1] at h; exact nomatch h.1)] at this
    exact iteT (iteT this)
  | true =>
  refine iteF ?_
  refine ⟨_, rfl, ⟨_, rfl⟩, _, _, rfl, rfl, _, rfl, ?_⟩
  cases e2 : Txt.endswith z "):" with
  | false =>
    have := q _ (Same.refl _)
    rw [if_neg (fun h => by rw [e2] at h; exact nomatch h.2)] at this
    exact iteT this
  | true =>
  refine iteF ?_
  rw [if_pos ⟨e1, e2⟩] at q
  have lc : (cutS z (some 7) (some (-2))).length ≤ 10000 := Nat.le_trans (cutS_length _ _ _) hz
  generalize hcut : cutS z (some 7) (some (-2)) = y at *
  refine ⟨_, rfl, _, rfl, _, rfl, _, rfl, z, rfl, sz5 (by omega), ⟨_, rfl⟩, y, "(", by rw [← hcut], rfl, by decide +kernel, sz5 (by omega), fun p1 np1 => ?_⟩
  have fp := part_len y "("
  have s1 := same_upd (o := .tup [.str (Txt.partition y "(").1, .str (Txt.partition y "(").2.1, .str (Txt.partition y "(").2.2]) np1
  refine ⟨p1, _, rfl, .inl (.inl upd_same), rfl, _, _, rfl, _, _, rfl, _, _, rfl, rfl, ?_⟩
  generalize upd H p1 (.tup [.str (Txt.partition y "(").1, .str (Txt.partition y "(").2.1, .str (Txt.partition y "(").2.2]) = H1 at *
  generalize (Txt.partition y "(").1 = nm at *
  generalize (Txt.partition y "(").2.1 = sg at *
  generalize (Txt.partition y "(").2.2 = tx at *
  refine ⟨_, rfl, rfl, _, rfl, ?_⟩
  by_cases e3 : sg = ""
  · have := q _ s1
    rw [if_pos (.inl e3)] at this
    exact iteY (by rw [e3]) (iteT this)
  refine iteN (fun h => e3 (V.str.inj h)) ?_
  have lnm := Nat.le_trans fp.1 lc
  refine ⟨_, rfl, _, rfl, .inl ⟨nm, rfl, lnm, fun H2 s2 => ⟨_, rfl, ?_⟩⟩⟩
  have s12 := s1.trans s2
  cases e4 : isWord nm with
  | false =>
    have := q _ s12
    rw [if_pos (.inr e4)] at this
    exact iteT this
  | true =>
  refine iteF ?_
  rw [if_neg (fun h => by rcases h with h | h; exact e3 h; rw [e4] at h; cases h)] at q
  refine ⟨_, rfl, tx, rfl, by omega, fun H3 s3 => ?_⟩
  have s13 := s12.trans s3
  cases e5 : readPs tx with
  | none =>
    rw [e5] at q
    exact ⟨_, rfl, rfl, _, rfl, iteY rfl (iteT (q _ s13))⟩
  | some ps =>
    rw [e5] at q
    intro v hv
    have nv : v ≠ .non := by
      obtain ⟨p, qs, rfl, _⟩ := pars_at hv
      exact fun z => nomatch z
    refine ⟨_, rfl, rfl, _, rfl, iteN nv ?_⟩
    obtain ⟨l3, sm⟩ := readPs_small e5
    refine ⟨_, rfl, v, _, rfl, hv, pars_sm (by omega) (fun m hm => ⟨by have := (isWord_len (sm m hm).1).2; omega, by have := (sm m hm).2; omega⟩), fun H4 s4 => ⟨_, rfl, ?_⟩⟩
    have s14 := s13.trans s4
    have q : ∀ H', Same H H' → (match (if areP (parsD ps) = true then some (nm, ps) else none) with | none => Q .non H' | some r => ∀ p v, H' p = some (.tup [.str r.1, v]) → DtV [] H' v (parsD r.2) → Q (.ref p) H') := q
    cases e6 : areP (parsD ps) with
    | false =>
      have := q _ s14
      rw [e6, if_neg Bool.false_ne_true] at this
      exact iteT this
    | true =>
      refine iteF ⟨_, rfl, _, rfl, (by show 2 ≤ sizeLine; decide), fun p np => ?_⟩
      have s5 := same_upd (o := .tup [.str nm, v]) np
      have := q _ (s14.trans s5)
      rw [e6, if_pos rfl] at this
      exact this p v upd_same ((hv.same s4).same s5)
end
end Lx

namespace Lx
open PySem PySem.Spec PyProof.Rows L2 Ub Ur Ug Ue Up Uo Ve Va Vk Rw
section
variable {P : Program} {w : World} {K : PySem.W.Frag} {mg : Str → Option Value} {base : Heap}
theorem sc_Update_read : FnScope ["cls", "shape", "text", "lines", "head", "rows", "at", "line"] ["cls", "shape", "text"] (defScope s_Update_read) := ⟨rfl, rfl, rfl, by decide +kernel, rfl, by decide +kernel, by decide +kernel⟩
theorem ok_Update_read {fd : FuncData} (F : FunD K "read" "Update.read" (defArgs s_Update_read) (defBody s_Update_read) (defScope s_Update_read) [] [] (Ya.cAd K "Update" "read") fd) (T : Tx K mg) (c_read_head : Cal P w K mg base 9 "read_head" ["line"] sp_rhead) (c_fits_behind : Cal P w K mg base 8 "fits_behind" ["shape", "parameters", "rows", "row"] (sp_fits K (He.ga K "Shape"))) (m_Update : CalR P w K mg base 18 "Update" (He.ga K "Update") (SpU K)) (x_BadLine : CalX P w K mg base 1 "BadLine" (He.ga K "BadLine") "at") :
    FnOk P w K mg base (CX P w) 20 (Ya.cAd K "Update" "read") fd ["cls", "shape", "text"] (sp_read K) := by
  refine F.ok sc_Update_read (fun vs H Q E h => by obtain ⟨_, _, _, _, rfl, _⟩ := h; rfl) (fun cdv A outer s H vs Q E hr h => ?_)
  obtain ⟨N, sh, g, v, rfl, ls, shg, gd, h⟩ := h
  refine ⟨_, (pss_cons (ps_if (pt_not (pt_val (pe_callB (call_isiK' K) (by rfl) T.isinstance (by decide +kernel) (pa_cons (pv 2) (pa_cons (pe_bltn (v := .ty "str") (by rfl) T.str (by decide +kernel) rfl) pa_nil)))))
        (pss_one (ps_raiseX x_BadLine rfl (takes_of rfl rfl rfl rfl) (hr.mono (by omega)) (by rfl) (pe_un un_neg pe_int)))
        pss_nil)
      (pss_cons (ps_set (i := 3) sc_Update_read.nd rfl (by first | exact Or.inl rfl | exact Or.inr rfl) (pe_split (pv 2) pe_str))
      (pss_cons (ps_set (i := 4) sc_Update_read.nd rfl (by first | exact Or.inl rfl | exact Or.inr rfl) (pe_cal c_read_head (hr.mono (by omega)) (by rfl) (pa_cons (pe_ix (ix_listK K) (pv 3) pe_int (fun _ _ => rfl)) pa_nil)))
      (pss_cons (ps_if (pt_cmpR op_isN (pv 4) pe_non (nomark _))
        (pss_one (ps_raiseX x_BadLine rfl (takes_of rfl rfl rfl rfl) (hr.mono (by omega)) (by rfl) pe_int))
        pss_nil)
      (pss_cons (ps_set (i := 5) sc_Update_read.nd rfl (by first | exact Or.inl rfl | exact Or.inr rfl) (pe_lst pa_nil))
      (pss_cons (ps_for (passes_of rfl) rfl (pi_enumK K (by rfl) T.enumerate (pa_cons (pe_slice (sl_listK K) (pv 3) (po_some pe_int) po_none) pa_nil)) (pg_tupK K (n := 2) rfl (pgs_cons (pg_name (i := 6) sc_Update_read.nd rfl (by first | exact Or.inl rfl | exact Or.inr rfl)) (pgs_cons (pg_name (i := 7) sc_Update_read.nd rfl (by first | exact Or.inl rfl | exact Or.inr rfl)) pgs_nil)))
        (pss_cons (ps_if (PW.pt (pw_or (pt_not (pt_val (pe_m1 PySem.F.slot_str_startswith PySem.F.type_str_startswith mt_startswith (pv 7) pe_str))) (pw_or1 (pt_not (pt_val (pe_cal c_fits_behind (hr.mono (by omega)) (by rfl) (pa_cons (pv 1) (pa_cons (pe_ix (ix_tupK K) (pv 4) pe_int (fun _ _ => rfl)) (pa_cons (pv 5) (pa_cons (pe_slice sl_str (pv 7) (po_some pe_int) po_none) pa_nil))))))))))
            (pss_one (ps_raiseX x_BadLine rfl (takes_of rfl rfl rfl rfl) (hr.mono (by omega)) (by rfl) (pe_op op_add (pv 6) pe_int)))
            pss_nil)
          (pss_one (ps_expr (pe_bmK K PySem.F.plainAttrs_list PySem.F.slot_list_append PySem.F.type_list_append mt_append (pv 5) (pa_cons (pe_slice sl_str (pv 7) (po_some pe_int) po_none) pa_nil))))))
      (pss_one (ps_ret (pe_makeVS m_Update (fun _ => passE0) (hr.mono (by omega)) (i := 0) rfl (by first | exact Or.inl rfl | exact Or.inr (Or.inl rfl) | exact Or.inr (Or.inr rfl)) (pa_cons (pv 1) (pa_cons (pe_ix (ix_tupK K) (pv 4) pe_int (fun _ _ => rfl)) (pa_starK K (pv 5) pa_nil)))))))))))), ?_⟩
  rcases h with ⟨z, rfl, hz, h⟩ | ⟨⟨Ty, ht, hk⟩, h⟩
  rotate_left
  · refine ⟨_, rfl, _, _, _, _, false, rfl, .ty "str", ht, kit_ty hk, _, rfl, iteT ⟨_, rfl, mkX fun e H' s ne he => h e H' s ne he⟩⟩
  refine ⟨_, rfl, _, _, _, _, true, rfl, .ty "str", .base (.str _), kit_ty (show kitB "str" "str" = some true by decide +kernel), _, rfl, iteF ?_⟩
  obtain ⟨l0, r, el⟩ := split_cons z "\n"
  have lspl := (fact_split z "\n").2
  have ll : ∀ p ∈ l0 :: r, p.length ≤ 10000 := fun p hp => Nat.le_trans (split_mem (z := z) (y := "\n") (by rw [el]; exact hp)) hz
  unfold readM at h
  rw [el] at h lspl
  dsimp only at h
  refine ⟨_, rfl, ⟨_, rfl⟩, z, "\n", rfl, rfl, by decide +kernel, Nat.le_trans (show z.length + 2 ≤ 100000 by omega) (by decide), fun L nL => ?_⟩
  rw [el]
  have s1 := same_upd (o := .lst ((l0 :: r).map V.str)) nL
  have eL : (upd H L (.lst ((l0 :: r).map V.str))) L = some (.lst ((l0 :: r).map V.str)) := upd_same
  generalize upd H L (.lst ((l0 :: r).map V.str)) = H1 at *
  refine ⟨_, rfl, L, _, 0, .str l0, rfl, rfl, .inl (.inl eL), at0, l0, rfl, ll _ (List.mem_cons_self ..), fun H2 s2 => ?_⟩
  have s02 := s1.trans s2
  cases eh : rheadM l0 with
  | none =>
    rw [eh] at h
    dsimp only at h
    exact ⟨_, rfl, rfl, _, rfl, iteY rfl (mkX fun e H' s ne he => h e H' (s02.trans s) (s02.free ne) he)⟩
  | some hd =>
  obtain ⟨nm, ps⟩ := hd
  rw [eh] at h
  dsimp only at h
  intro hp pvv ehp hpv
  have aP := rhead_ok eh
  refine ⟨_, rfl, rfl, _, rfl, iteN (fun z => nomatch z) ?_⟩
  refine ⟨Nat.zero_le _, fun b nb => ?_⟩
  dsimp only [gName]
  have eL2 := s2 _ _ eL
  have sb := same_upd (o := .lst []) nb
  have s03 := s02.trans sb
  have eb : (upd H2 b (.lst [])) b = some (.lst []) := upd_same
  have eL3 := sb _ _ eL2
  have ehp3 := sb _ _ ehp
  have hpv3 := hpv.same sb
  have nbH := s02.free nb
  generalize upd H2 b (.lst []) = H3 at *
  refine ⟨_, rfl, _, rfl, ?_⟩
  refine noPart ?_
  refine ⟨L, _, rfl, .inl (.inl eL3), fun Le nLe => ?_⟩
  have ecut : cutV ((l0 :: r).map V.str) (some 1) none = r.map V.str := cut_drop (us := (l0 :: r).map V.str) (i := 1) (by simp)
  rw [ecut]
  have sLe := same_upd (o := .lst (r.map V.str)) nLe
  have s04 := s03.trans sLe
  have eLe : (upd H3 Le (.lst (r.map V.str))) Le = some (.lst (r.map V.str)) := upd_same
  have eb4 := sLe _ _ eb
  have ehp4 := sLe _ _ ehp3
  have hpv4 := hpv3.same sLe
  have bLe : Le ≠ b := fun z => by rw [z, eb] at nLe; cases nLe
  generalize upd H3 Le (.lst (r.map V.str)) = H4 at *
  have shg4 := shg.kz (kz_of s04)
  have hl3 := (areP_small aP).1
  have h : (match (match linesM g.tr ps [] r 0 with | .inl i => Sum.inl i | .inr rs => .inr (ps, rs)) with
    | .inl i => ∀ e H', Same H H' → H e = none → H' e = some (.xd [("at", .int (i : Nat))]) → E (.ref (He.ga K "BadLine")) (some e) H'
    | .inr r => ∀ x H', Same H H' → H x = none → UpAt N K H' x sh g r.1 r.2 → Q (.ref x) H') := h
  clear el lspl ehp hpv eb ehp3 hpv3 eL eL2 eL3 nLe sLe nL s1 s2 s02 s03 sb nb ecut
  refine ⟨Le, r.map V.str, rfl, .inl (.inl eLe), ?_⟩
  refine for_it (walk_enum (K := K) (a := Le) (xs := r.map V.str)) (fun i σ HH => ∃ y6 y7 rs, σ = [some (.ref (He.ga K "Update")), some (.ref sh), some (.str z), some (.ref L), some (.ref hp), some (.ref b), y6, y7] ∧ (∀ c o, H4 c = some o → c ≠ b → HH c = some o) ∧ HH b = some (.lst (rs.map V.str)) ∧ Few rs ∧ badAt g.tr ps [] (rs.map some) 0 = none ∧ (∀ z ∈ rs, z.length ≤ 10000) ∧ linesM g.tr ps [] r 0 = linesM g.tr ps rs (r.drop i) i) ?_ (fun i σ HH _ pp => ?_) (fun i v σ HH HH' hi pp y => ?_) (fun σ HH pp => ?_)
  · exact ⟨none, none, [], rfl, fun c o e _ => e, eb4, Few.nil, rfl, (fun _ h => nomatch h), rfl⟩
  · obtain ⟨_, _, _, _, k, _⟩ := pp
    exact .inl (.inl (k _ _ eLe bLe))
  · obtain ⟨y6, y7, rs, rfl, k, ebH, fw, bd, lrs, elm⟩ := pp
    obtain ⟨T0, xi, vi, rfl, nT, rfl, ex, eq⟩ := y
    cases ex
    have hir : i < r.length := by rw [← List.length_map (f := V.str)]; exact hi
    have er := List.getElem?_eq_getElem hir
    have lrow : r[i].length ≤ 10000 := ll _ (List.mem_cons_of_mem _ (List.getElem_mem hir))
    have eq : (r.map V.str)[i]? = some vi := eq
    rw [List.getElem?_map, er] at eq
    cases eq
    have edr : r.drop i = r[i] :: r.drop (i + 1) := List.drop_eq_getElem_cons hir
    generalize r[i] = row at *
    have sT := same_upd (o := .tup [.int (i : Nat), .str row]) nT
    have eT : (upd HH T0 (.tup [.int (i : Nat), .str row])) T0 = some (.tup [.int (i : Nat), .str row]) := upd_same
    generalize upd HH T0 (.tup [.int (i : Nat), .str row]) = HJ at *
    have kJ : ∀ c o, H4 c = some o → c ≠ b → HJ c = some o := fun c o e n => sT _ _ (k c o e n)
    have ebJ := sT _ _ ebH
    have sJ : Same H HJ := fun c o e => kJ _ _ (s04 _ _ e) (ne_of_none e nbH)
    have elm2 : linesM g.tr ps rs (r.drop i) i = if Txt.startswith row "    " = true ∧ fitsM g.tr ps rs (cutS row (some 4) none) = true then linesM g.tr ps (rs ++ [cutS row (some 4) none]) (r.drop (i + 1)) (i + 1) else .inl (i + 1) := by
      rw [edr]
      rfl
    have bad : ¬ (Txt.startswith row "    " = true ∧ fitsM g.tr ps rs (cutS row (some 4) none) = true) → ∀ H', Same HJ H' → MkX (He.ga K "BadLine") "at" (.int ((i : Int) + 1)) H' E := fun hn H' s' => by
      rw [if_neg hn] at elm2
      rw [elm, elm2] at h
      have h : ∀ e H', Same H H' → H e = none → H' e = some (.xd [("at", .int ((i + 1 : Nat) : Int))]) → E (.ref (He.ga K "BadLine")) (some e) H' := h
      exact mkX fun e H2 s2 ne he => h e H2 ((sJ.trans s').trans s2) ((sJ.trans s').free ne) he
    refine ⟨T0, _, rfl, .inl (.inl eT), rfl, _, _, rfl, _, _, rfl, rfl, ?_⟩
    refine ⟨_, rfl, ⟨_, rfl⟩, _, _, rfl, rfl, _, rfl, ?_⟩
    cases e1 : Txt.startswith row "    " with
    | false =>
      refine iteT (iteT ?_)
      exact ⟨_, rfl, _, _, rfl, rfl, bad (fun z => by rw [e1] at z; exact nomatch z.1) _ (Same.refl _)⟩
    | true =>
    refine iteF ?_
    refine ⟨_, rfl, _, rfl, hp, _, 1, pvv, rfl, rfl, .inl (.inl (kJ _ _ ehp4 (ne_of ehp4 eb4 (by intro z; cases z)))), rfl, _, rfl, _, rfl, _, rfl, ?_⟩
    refine noPart ?_
    have ln := fw.len
    have lcut : (cutS row (some 4) none).length ≤ 10000 := Nat.le_trans (cutS_length _ _ _) lrow
    have k4J : Kn [b] H4 HJ := fun c o e n => kJ c o e fun z => n (by rw [z]; simp)
    have hpvJ : DtV [] HJ pvv (parsD ps) := pars_keep hpv4 fun c xs e => kJ c _ e fun z => by rw [z, eb4] at e; cases e
    refine ⟨_, rfl, by exact sz5 (by omega), sh, g, _, pvv, ps, b, rs, _, some (cutS row (some 4) none), rfl, shg.kz (kz_of sJ), gd, hpvJ, hl3, .inr ebJ, by omega, ⟨rfl, by omega⟩, rfl, (fun z => nomatch z), fun H5 s5 => ⟨_, rfl, ?_⟩⟩
    cases e2 : fitsV g.tr ps rs (some (cutS row (some 4) none)) with
    | false =>
      refine iteT ?_
      exact ⟨_, rfl, _, _, rfl, rfl, bad (fun z => by have := z.2; have e2 : fitsM g.tr ps rs (cutS row (some 4) none) = false := e2; rw [e2] at this; cases this) _ s5⟩
    | true =>
    have e2 : fitsM g.tr ps rs (cutS row (some 4) none) = true := e2
    refine iteF ?_
    have eb5 := s5 _ _ ebJ
    refine ⟨_, rfl, .inl ⟨rfl, _, .inl (.inl eb5)⟩, _, rfl, _, rfl, noPart ?_⟩
    refine ⟨_, rfl, by exact sz5 (by omega), b, _, _, rfl, rfl, eb5, small1000 (by rw [List.length_map]; omega), ?_⟩
    refine ⟨_, _, rs ++ [cutS row (some 4) none], rfl, fun c o e n => by rw [upd_ne n]; exact s5 _ _ (kJ c o e n), by rw [upd_same, List.map_append]; rfl, fw.snoc e2, bad_app bd e2, fun z' hz' => ?_, ?_⟩
    · rcases List.mem_append.mp hz' with h1 | h1
      · exact lrs z' h1
      · have : z' = cutS row (some 4) none := by simpa using h1
        rw [this]
        exact lcut
    · rw [elm, elm2, if_pos ⟨e1, e2⟩]
  · obtain ⟨y6, y7, rs, rfl, k, ebH, fw, bd, lrs, elm⟩ := pp
    have sH : Same H HH := fun c o e => k _ _ (s04 _ _ e) (ne_of_none e nbH)
    rw [List.length_map, List.drop_length] at elm
    rw [elm] at h
    have h : ∀ x H', Same H H' → H x = none → UpAt N K H' x sh g ps rs → Q (.ref x) H' := h
    have ehpH := k _ _ ehp4 (ne_of ehp4 eb4 (by intro z; cases z))
    have hpvH : DtV [] HH pvv (parsD ps) := pars_keep hpv4 fun c xs e => k c _ e fun z => by rw [z, eb4] at e; cases e
    have ln := fw.len
    have lsH := ls.same sH
    refine ⟨rfl, _, rfl, _, rfl, hp, _, 1, pvv, rfl, rfl, .inl (.inl ehpH), rfl, _, rfl, b, _, rfl, .inr (.inl (.inl ebH)), ?_⟩
    have := mkU (E := E0) (pv := pvv) (Q := Q) lsH (shg.kz (kz_of sH)) gd (lsH.pars hpvH) aP bd (fun z hz => by have := lrs z hz; omega) (by omega) fun x H' s' nx hu => h x H' (sH.trans s') (sH.free nx) hu
    rw [← List.append_nil (rs.map V.str)] at this
    exact this
end
end Lx

namespace Lx
open PySem PySem.Spec PyProof.Rows L2 Ub Ur Ug Ue Up Uo Ve Va
section
variable {P : Program} {w : World} {K : PySem.W.Frag} {mg : Str → Option Value} {base : Heap}
theorem sc_get : FnScope ["self", "path"] ["self", "path"] (defScope s_Shape___getitem__) := ⟨rfl, rfl, rfl, by decide +kernel, rfl, by decide +kernel, by decide +kernel⟩
theorem ok_get {fd : FuncData} (F : Df K ("Shape", some "__getitem__") "__getitem__" "Shape.__getitem__" s_Shape___getitem__ [] fd) (T : Tx K mg) (x_BadPath : CalX P w K mg base 1 "BadPath" (He.ga K "BadPath") "path") :
    FnOk P w K mg base (CX P w) 4 (He.fAd K ("Shape", some "__getitem__")) fd ["self", "path"] (sp_get K (He.ga K "Shape") (He.ga K "BadPath")) := by
  refine F.ok sc_get (fun vs H Q E h => by obtain ⟨x, g, Z, y, rfl, _⟩ := h; rfl) (fun cdv A outer s H vs Q E hr h => ?_)
  obtain ⟨x, g, Z, y, rfl, sh, hg, h⟩ := h
  refine ⟨_, (pss_cons (ps_if (PW.pt (pw_or (pt_not (pt_val (pe_callB (call_isiK' K) (by rfl) T.isinstance (by decide +kernel) (pa_cons (pv 1) (pa_cons (pe_bltn (v := .ty "str") (by rfl) T.str (by decide +kernel) rfl) pa_nil))))) (pw_or1 (pt_cmp (pc_dnotin (units1 hr) (pv 1) (pe_fldK K (pv 0) rfl)) (by rfl)))))
        (pss_one (ps_raiseX x_BadPath rfl (takes_of rfl rfl rfl rfl) (hr.mono (by omega)) (by rfl) (pv 1)))
        pss_nil)
      (pss_one (ps_ret (pe_dget (units1 hr) (pe_fldK K (pv 0) rfl) (pv 1) (fun _ _ => rfl))))), ?_⟩
  obtain ⟨dx, tv, na, fa, sa, h1, h2, h3, h4, h5, _⟩ := sh.1
  rw [spots_eq x (good_W hg)] at h5
  have lk : ([("text", V.str g.tr.text), ("tree", tv), ("names", .ref na), ("fields", .ref fa), ("spots", .ref sa)] : List (Str × V)).lookup ("spots" : Str) = some (V.ref sa) := rfl
  have nd : ((gpaths x g).map (·.1)).Nodup := by rw [gpaths_keys]; exact paths_nodup (good_W hg)
  rcases h with ⟨m, hm, rfl, q⟩ | ⟨hno, q⟩
  · refine ⟨_, rfl, _, _, _, _, true, rfl, .ty "str", .base (.str m.1), kit_ty (by decide +kernel), true, rfl, ?_⟩
    refine iteE (c := false) rfl (fun z => nomatch z) fun _ => ?_
    have dg : DGet H sa (.str m.1) (some (.ref m.2.1)) := by
      have := DGet.k (H := H) (a := sa) (k := .inr m.1) h5
      rw [val_at nd m hm] at this
      exact this
    refine ⟨_, rfl, _, rfl, x, _, dx, _, _, rfl, h1, T.k_Shape, T.n_Shape_spots, lk, sa, _, rfl, dg, _, rfl, ?_⟩
    refine iteE (c := false) rfl (fun z => nomatch z) fun _ => ?_
    exact ⟨_, rfl, x, _, dx, _, _, rfl, h1, T.k_Shape, T.n_Shape_spots, lk, _, rfl, sa, _, rfl, dg, q⟩
  · rcases hno with ⟨T0, ht, hk⟩ | ⟨z, rfl, hz⟩
    · refine ⟨_, rfl, _, _, _, _, false, rfl, .ty "str", ht, kit_ty hk, false, rfl, ?_⟩
      exact iteT (iteT ⟨_, rfl, mkX fun e H2 s2 ne he => q e H2 s2 ne he⟩)
    · refine ⟨_, rfl, _, _, _, _, true, rfl, .ty "str", .base (.str z), kit_ty (by decide +kernel), true, rfl, ?_⟩
      refine iteE (c := false) rfl (fun z => nomatch z) fun _ => ?_
      have dg : DGet H sa (.str z) none := by
        have := DGet.k (H := H) (a := sa) (k := .inr z) h5
        rw [val_no (by rw [gpaths_keys]; exact hz)] at this
        exact this
      refine ⟨_, rfl, _, rfl, x, _, dx, _, _, rfl, h1, T.k_Shape, T.n_Shape_spots, lk, sa, _, rfl, dg, _, rfl, ?_⟩
      exact iteT ⟨_, rfl, mkX fun e H2 s2 ne he => q e H2 s2 ne he⟩
theorem sc_con : FnScope ["self", "path"] ["self", "path"] (defScope s_Shape___contains__) := ⟨rfl, rfl, rfl, by decide +kernel, rfl, by decide +kernel, by decide +kernel⟩
theorem ok_con {fd : FuncData} (F : Df K ("Shape", some "__contains__") "__contains__" "Shape.__contains__" s_Shape___contains__ [] fd) (T : Tx K mg) :
    FnOk P w K mg base CX0 1 (He.fAd K ("Shape", some "__contains__")) fd ["self", "path"] (sp_con K (He.ga K "Shape")) := by
  refine F.ok sc_con (fun vs H Q E h => by obtain ⟨x, g, Z, y, rfl, _⟩ := h; rfl) (fun cdv A outer s H vs Q E hr h => ?_)
  obtain ⟨x, g, Z, y, rfl, sh, hg, h⟩ := h
  refine ⟨_, PSs.nox (pss_one (ps_ret (pe_and (pe_callB (call_isiK' K) (by rfl) T.isinstance (by decide +kernel) (pa_cons (pv 1) (pa_cons (pe_bltn (v := .ty "str") (by rfl) T.str (by decide +kernel) rfl) pa_nil))) (pe_one (pe_cmp (pc_din (units1 hr) (pv 1) (pe_fldK K (pv 0) rfl)) (by rfl)))))), ?_⟩
  obtain ⟨dx, tv, na, fa, sa, h1, h2, h3, h4, h5, _⟩ := sh.1
  rw [spots_eq x (good_W hg)] at h5
  have lk : ([("text", V.str g.tr.text), ("tree", tv), ("names", .ref na), ("fields", .ref fa), ("spots", .ref sa)] : List (Str × V)).lookup ("spots" : Str) = some (V.ref sa) := rfl
  have nd : ((gpaths x g).map (·.1)).Nodup := by rw [gpaths_keys]; exact paths_nodup (good_W hg)
  rcases h with ⟨z, rfl, q⟩ | ⟨⟨T0, ht, hk⟩, q⟩
  · refine ⟨_, rfl, _, _, _, _, true, rfl, .ty "str", .base (.str z), kit_ty (by decide +kernel), true, rfl, ?_⟩
    have dg : DGet H sa (.str z) (valV ((gpaths x g).map ent) (.inr z)) := DGet.k (H := H) (a := sa) (k := .inr z) h5
    have e : (valV ((gpaths x g).map ent) (.inr z)).isSome = decide (z ∈ pks g.tr) := by
      by_cases hz : z ∈ pks g.tr
      · rw [decide_eq_true hz]
        have hz2 : z ∈ (gpaths x g).map (·.1) := by rw [gpaths_keys]; exact hz
        obtain ⟨m, hm, rfl⟩ := List.mem_map.mp hz2
        rw [val_at nd m hm]
        rfl
      · rw [decide_eq_false hz, val_no (by rw [gpaths_keys]; exact hz)]
        rfl
    rw [← e] at q
    exact iteT ⟨_, rfl, _, rfl, x, _, dx, _, _, rfl, h1, T.k_Shape, T.n_Shape_spots, lk, sa, _, rfl, dg, q⟩
  · refine ⟨_, rfl, _, _, _, _, false, rfl, .ty "str", ht, kit_ty hk, false, rfl, ?_⟩
    exact iteF q
theorem sc_eq : FnScope ["self", "other"] ["self", "other"] (defScope s_Shape___eq__) := ⟨rfl, rfl, rfl, by decide +kernel, rfl, by decide +kernel, by decide +kernel⟩
theorem ok_eq {fd : FuncData} (F : Df K ("Shape", some "__eq__") "__eq__" "Shape.__eq__" s_Shape___eq__ [] fd) (T : Tx K mg) :
    FnOk P w K mg base CX0 1 (He.fAd K ("Shape", some "__eq__")) fd ["self", "other"] (sp_eqS K (He.ga K "Shape")) := by
  refine F.ok sc_eq (fun vs H Q E h => by obtain ⟨x, g, Z, y, rfl, _⟩ := h; rfl) (fun cdv A outer s H vs Q E hr h => ?_)
  obtain ⟨x, g, Z, y, rfl, sh, h⟩ := h
  refine ⟨_, PSs.nox (pss_one (ps_ret (pe_and (pe_callB (call_isiK' K) (by rfl) T.isinstance (by decide +kernel) (pa_cons (pv 1) (pa_cons (pe_globR (by rfl) T.g_Shape) pa_nil))) (pe_one (pe_cmpR op_eq (pe_fldK K (pv 0) rfl) (pe_fldK K (pv 1) rfl) (nomark _)))))), ?_⟩
  obtain ⟨dx, tv, na, fa, sa, h1, _⟩ := sh.1
  rcases h with ⟨x', g', Z', rfl, sh', q⟩ | ⟨T0, ht, hk, q⟩
  · obtain ⟨dx', tv', na', fa', sa', h1', _⟩ := sh'.1
    refine ⟨_, rfl, _, _, _, _, true, rfl, .own _, T.ty.ty T.k_Shape h1', T.ty.kit, true, rfl, ?_⟩
    refine iteT ⟨_, rfl, x, _, dx, _, _, rfl, h1, T.k_Shape, T.n_Shape_text, rfl, _, rfl, x', _, dx', _, _, rfl, h1', T.k_Shape, T.n_Shape_text, rfl, rfl, ?_⟩
    have e : decide (V.str g.tr.text = V.str g'.tr.text) = decide (g.tr.text = g'.tr.text) := by
      by_cases c : g.tr.text = g'.tr.text
      · rw [decide_eq_true c, decide_eq_true (by rw [c])]
      · rw [decide_eq_false c, decide_eq_false (fun z => c (V.str.inj z))]
    rw [e]
    exact q
  · refine ⟨_, rfl, _, _, _, _, false, rfl, .own _, ht, hk, false, rfl, ?_⟩
    exact iteF q
end
end Lx

namespace Lx
open PySem PySem.Spec PyProof.Rows L2 Ub Ur Ug Ue Up Uo Ve Va Vk
section
variable {P : Program} {w : World} {K : PySem.W.Frag} {mg : Str → Option Value} {base : Heap}
/-! ### the properties -/
theorem lk5 {z : Str} {tv : V} {na fa sa : Addr} : ([("text", V.str z), ("tree", tv), ("names", .ref na), ("fields", .ref fa), ("spots", .ref sa)] : List (Str × V)).lookup ("names" : Str) = some (V.ref na) := rfl
theorem sc_is_plain : FnScope ["self"] ["self"] (defScope s_Shape_is_plain) := ⟨rfl, rfl, rfl, by decide +kernel, rfl, by decide +kernel, by decide +kernel⟩
theorem ok_is_plain {f : Addr} {fd : FuncData} (F : FunD K "is_plain" "Shape.is_plain" (defArgs s_Shape_is_plain) (defBody s_Shape_is_plain) (defScope s_Shape_is_plain) [] [] f fd) (T : Tx K mg) : FnOk P w K mg base CX0 1 f fd ["self"] (sp_shP (He.ga K "Shape") fun t => .bl t.isNil) := by
  refine F.ok sc_is_plain (fun vs H Q E h => by obtain ⟨x, g, Z, rfl, _⟩ := h; rfl) (fun cdv A outer s H vs Q E hr h => ?_)
  obtain ⟨x, g, Z, rfl, sh, hg, q⟩ := h
  refine ⟨_, PSs.nox (pss_one (ps_ret (pe_cmpR (op_eq_nilK K hr.units0) (pe_fldK K (pv 0) rfl) (pe_tup pa_nil) (nomark _)))), ?_⟩
  obtain ⟨dx, tv, na, fa, sa, h1, h2, h3, _⟩ := sh.1
  refine ⟨_, rfl, x, _, dx, _, _, rfl, h1, T.k_Shape, T.n_Shape_names, lk5, Nat.zero_le _, fun e ne => ?_⟩
  have s1 := same_upd (o := .tup []) ne
  refine ⟨na, e, _, rfl, rfl, .inl (.inl (s1 _ _ h3)), .inl (.inl upd_same), ?_⟩
  have ee : (g.tr.fields.map fun m => V.str m.1).isEmpty = g.tr.isNil := by rw [List.isEmpty_map, Tr.nil_iff]
  rw [ee]
  exact q _ s1
theorem lk2 {z : Str} {tv : V} {na fa sa : Addr} : ([("text", V.str z), ("tree", tv), ("names", .ref na), ("fields", .ref fa), ("spots", .ref sa)] : List (Str × V)).lookup ("tree" : Str) = some tv := rfl
theorem sc_pplains : FnScope ["self"] ["self"] (defScope s_Shape_plains) := ⟨rfl, rfl, rfl, by decide +kernel, rfl, by decide +kernel, by decide +kernel⟩
theorem ok_pplains {f : Addr} {fd : FuncData} (F : FunD K "plains" "Shape.plains" (defArgs s_Shape_plains) (defBody s_Shape_plains) (defScope s_Shape_plains) [] [] f fd) (T : Tx K mg) (c_plains_of : Cal P w K mg base 4 "plains_of" ["tree"] (sp_tree 4 fun t => .int (t.plains : Nat))) : FnOk P w K mg base CX0 5 f fd ["self"] (sp_shP (He.ga K "Shape") fun t => .int (t.plains : Nat)) := by
  refine F.ok sc_pplains (fun vs H Q E h => by obtain ⟨x, g, Z, rfl, _⟩ := h; rfl) (fun cdv A outer s H vs Q E hr h => ?_)
  obtain ⟨x, g, Z, rfl, sh, hg, q⟩ := h
  refine ⟨_, PSs.nox (pss_one (ps_ret (pe_cal c_plains_of (hr.mono (by omega)) (by rfl) (pa_cons (pe_fldK K (pv 0) rfl) pa_nil)))), ?_⟩
  obtain ⟨dx, tv, na, fa, sa, h1, h2, h3, _⟩ := sh.1
  obtain ⟨md, ms, mh⟩ := good_has hg
  exact ⟨_, rfl, x, _, dx, _, _, rfl, h1, T.k_Shape, T.n_Shape_tree, lk2, g.tr, tv, rfl, h2, by omega, by omega, mh, q⟩
end
end Lx

namespace Lx
open PySem PySem.Spec PyProof.Rows L2 Ub Ur Ug Ue Up Uo Ve Va Vk Rw
section
variable {P : Program} {w : World} {K : PySem.W.Frag} {mg : Str → Option Value} {base : Heap}
theorem sc_Update_slots : FnScope ["self", "word", "kind"] ["self"] (defScope s_Update_slots) := ⟨rfl, rfl, rfl, by decide +kernel, rfl, by decide +kernel, by decide +kernel⟩
theorem ok_uslots {f : Addr} {fd : FuncData} (F : FunD K "slots" "Update.slots" (defArgs s_Update_slots) (defBody s_Update_slots) (defScope s_Update_slots) [] [] f fd) (T : Tx K mg) (p_Shape_plains : CalP P w K mg base 5 (He.ga K "Shape") "plains" (sp_shP (He.ga K "Shape") fun t => .int (t.plains : Nat))) : FnOk P w K mg base CX0 7 f fd ["self"] (sp_slots K) := by
  refine F.ok sc_Update_slots (fun vs H Q E h => by obtain ⟨_, _, _, _, _, _, rfl, _⟩ := h; rfl) (fun cdv A outer s H vs Q E hr h => ?_)
  obtain ⟨N, u, sh, g, ps, zs, rfl, up, q⟩ := h
  have l3 := up.l3
  refine ⟨_, PSs.nox (pss_one (ps_ret (pe_callB (cr_sumK K rfl) (by rfl) T.sum (by decide +kernel) (pa_cons (pe_lc (own := [("word", 1), ("kind", 2)]) (by rfl) sc_Update_slots.nd (pi_listK K (pe_fldK K (pv 0) rfl)) (blkOk_by (N := ["self", "word", "kind"]) (sc := (defScope s_Update_slots)) (by decide +kernel)) (fun _ _ _ _ _ => (pg_tupK K (n := 2) rfl (pgs_cons (pg_name (i := 1) sc_Update_slots.nd rfl (by first | exact Or.inl rfl | exact Or.inr rfl)) (pgs_cons (pg_name (i := 2) sc_Update_slots.nd rfl (by first | exact Or.inl rfl | exact Or.inr rfl)) pgs_nil)))) (fun _ _ _ _ _ => pts_nil) (fun _ _ _ _ _ => (pe_propP p_Shape_plains (hr.mono (by omega)) (pv 2)))) pa_nil)))), ?_⟩
  obtain ⟨dx, pv, rs, ks, ws, h1, h2, h3, h4, h5, ⟨z6, qs, h6, lq, h7⟩, _⟩ := up
  refine ⟨_, rfl, u, _, dx, _, _, rfl, h1, T.k_Update, T.n_Update_kinds, rfl, ks, rfl, ⟨_, .inl (.inl h6)⟩, fun D hD => ?_⟩
  refine lcM (walk_list (xs := qs.map V.ref)) ps (by rw [List.length_map, lq]) (fun m => some (.int (plM m.2 : Nat))) (fun H s => s.seq (.inl (.inl h6))) (by rw [List.length_map]; exact sz5 (by omega)) hD (fun i x m H' hx hm s' => ?_) (fun H3 s3 d3 => ?_)
  · obtain ⟨q0, y, gg, e1, e2, e3, e4, e5⟩ := h7 i m hm
    obtain rfl : x = .ref q0 := by
      rw [List.getElem?_map, e1] at hx
      exact (Option.some.inj hx).symm
    intro Q1 Q0 a1 a0
    have e3' := e3.kz (kz_of s')
    obtain ⟨dy, tvy, nay, fay, say, fy, _⟩ := id e3'.1
    refine ⟨q0, _, rfl, .inl (.inl (s' _ _ e2)), rfl, _, _, rfl, _, _, rfl, rfl, rfl, ?_⟩
    refine ⟨_, rfl, y, dy, _, rfl, fy, y, gg, _, rfl, e3', e5, fun H4 s4 => ?_⟩
    refine a1 _ _ ?_ s4
    have : plM m.2 = gg.tr.plains := by
      unfold plM
      rw [← e4, shapeOf_in e5]
    rw [this]
  have ed : (ps.filterMap fun m => some (V.int (plM m.2 : Nat))) = ((ps.map fun m => ((plM m.2 : Nat) : Int))).map V.int := by
    rw [List.filterMap_eq_map', List.map_map]
    rfl
  rw [ed] at d3
  refine ⟨D, _, rfl, .inl (.inl d3), ?_⟩
  rw [slots_sum]
  exact q _ s3
theorem sc_Update_marks : FnScope ["self", "row"] ["self"] (defScope s_Update_marks) := ⟨rfl, rfl, rfl, by decide +kernel, rfl, by decide +kernel, by decide +kernel⟩
theorem ok_umarks {f : Addr} {fd : FuncData} (F : FunD K "marks" "Update.marks" (defArgs s_Update_marks) (defBody s_Update_marks) (defScope s_Update_marks) [] [] f fd) (T : Tx K mg) : FnOk P w K mg base CX0 2 f fd ["self"] (sp_marks K) := by
  refine F.ok sc_Update_marks (fun vs H Q E h => by obtain ⟨_, _, _, _, _, _, rfl, _⟩ := h; rfl) (fun cdv A outer s H vs Q E hr h => ?_)
  obtain ⟨N, u, sh, g, ps, zs, rfl, up, q⟩ := h
  refine ⟨_, PSs.nox (pss_one (ps_ret (pe_callTy (call_tuple_ofK K) (by rfl) T.tuple (by decide +kernel) (pa_cons (pe_lc (own := [("row", 1)]) (by rfl) sc_Update_marks.nd (pi_tupK K (pe_fldK K (pv 0) rfl)) (blkOk_by (N := ["self", "row"]) (sc := (defScope s_Update_marks)) (by decide +kernel)) (fun _ _ _ _ _ => (pg_name (i := 1) sc_Update_marks.nd rfl (by first | exact Or.inl rfl | exact Or.inr rfl))) (fun _ _ _ _ _ => pts_one (pt_cmpR op_ne (pv 1) pe_str (nomark _))) (fun _ _ _ _ _ => (pe_ix (ix_tupK K) (pe_partition (pv 1) pe_str) pe_int (fun _ _ => rfl)))) pa_nil)))), ?_⟩
  have few := up.few
  have al := up.al
  obtain ⟨dx, pv, rs, ks, ws, h1, h2, h3, h4, h5, _⟩ := up
  have ln := few.len
  refine ⟨_, rfl, u, _, dx, _, _, rfl, h1, T.k_Update, T.n_Update_rows, rfl, rs, rfl, ⟨_, .inl (.inl h4)⟩, fun D hD => ?_⟩
  refine lcM (walk_tup (xs := zs.map V.str)) zs (by rw [List.length_map]) (fun z => if z = "then" then none else some (.str (Txt.partition z " ").1)) (fun H s => Same.tup s (.inl (.inl h4))) (by rw [List.length_map]; exact sz5 (by omega)) hD (fun i x m H' hx hm s' => ?_) (fun H3 s3 d3 => ?_)
  · obtain rfl : x = .str m := by
      rw [List.getElem?_map, hm] at hx
      exact (Option.some.inj hx).symm
    intro Q1 Q0 a1 a0
    have lm := (al m (List.mem_of_getElem? hm)).2
    refine ⟨rfl, _, rfl, rfl, _, rfl, ?_⟩
    by_cases e : m = "then"
    · exact iteNN (by rw [e]) (a0 _ (if_pos e) (Same.refl _))
    · refine iteNY (fun z => e (V.str.inj z)) ?_
      exact ⟨_, rfl, ⟨_, rfl⟩, m, " ", rfl, rfl, by decide +kernel, sz5 (by omega), fun p np => ⟨p, _, 0, _, rfl, rfl, .inl (.inl upd_same), at0, a1 _ _ (if_neg e) (same_upd np)⟩⟩
  exact ⟨D, _, rfl, .inl ⟨.inl (.inl d3), fun p np => q p _ (s3.trans (same_upd np)) (by rw [upd_same]; exact congrArg (fun l => some (HO.tup l)) (marks_fm zs))⟩⟩
theorem sc_Update_sections : FnScope ["self"] ["self"] (defScope s_Update_sections) := ⟨rfl, rfl, rfl, by decide +kernel, rfl, by decide +kernel, by decide +kernel⟩
theorem ok_usecs {f : Addr} {fd : FuncData} (F : FunD K "sections" "Update.sections" (defArgs s_Update_sections) (defBody s_Update_sections) (defScope s_Update_sections) [] [] f fd) (T : Tx K mg) (c_split_rows : Cal P w K mg base 1 "split_rows" ["rows"] sp_split) : FnOk P w K mg base CX0 2 f fd ["self"] (sp_secs K) := by
  refine F.ok sc_Update_sections (fun vs H Q E h => by obtain ⟨_, _, _, _, _, _, rfl, _⟩ := h; rfl) (fun cdv A outer s H vs Q E hr h => ?_)
  obtain ⟨N, u, sh, g, ps, zs, rfl, up, q⟩ := h
  refine ⟨_, PSs.nox (pss_one (ps_ret (pe_cal c_split_rows (hr.mono (by omega)) (by rfl) (pa_cons (pe_fldK K (pv 0) rfl) pa_nil)))), ?_⟩
  have ln := up.few.len
  obtain ⟨dx, pv, rs, ks, ws, h1, h2, h3, h4, h5, _⟩ := up
  exact ⟨_, rfl, u, _, dx, _, _, rfl, h1, T.k_Update, T.n_Update_rows, rfl, rs, zs, rfl, h4, by omega, fun v H' s hv => q v H' s hv⟩
theorem sc_Update___eq__ : FnScope ["self", "other"] ["self", "other"] (defScope s_Update___eq__) := ⟨rfl, rfl, rfl, by decide +kernel, rfl, by decide +kernel, by decide +kernel⟩
theorem ok_ueq {fd : FuncData} (F : Df K ("Update", some "__eq__") "__eq__" "Update.__eq__" s_Update___eq__ [] fd) (T : Tx K mg) (k_Shape_eq : CalK P w K mg base CX0 1 (He.ga K "Shape") "__eq__" ["self", "other"] (sp_eqS K (He.ga K "Shape"))) :
    FnOk P w K mg base CX0 3 (He.fAd K ("Update", some "__eq__")) fd ["self", "other"] (sp_ueq K) := by
  refine F.ok sc_Update___eq__ (fun vs H Q E h => by obtain ⟨_, _, _, _, _, _, _, rfl, _⟩ := h; rfl) (fun cdv A outer s H vs Q E hr h => ?_)
  obtain ⟨N, u, sh, g, ps, zs, y, rfl, up, h⟩ := h
  refine ⟨_, PSs.nox (pss_cons (ps_if (pt_not (pt_val (pe_callB (call_isiK' K) (by rfl) T.isinstance (by decide +kernel) (pa_cons (pv 1) (pa_cons (pe_globR (by rfl) T.g_Update) pa_nil)))))
        (pss_one (ps_ret pe_bl))
        pss_nil)
      (pss_one (ps_ret (pe_and (pe_cmpR (op_eqO k_Shape_eq T.nf (E := E0) (fun _ => pas0) (hr.mono (by omega)) hr.units0) (pe_fldK K (pv 0) rfl) (pe_fldK K (pv 1) rfl) (nomark _)) (pe_and (pe_cmpR (op_eqDK K hr.units) (pe_fldK K (pv 0) rfl) (pe_fldK K (pv 1) rfl) (nomark _)) (pe_one (pe_cmpR (op_eqDK K hr.units) (pe_fldK K (pv 0) rfl) (pe_fldK K (pv 1) rfl) (nomark _)))))))), ?_⟩
  rcases h with ⟨N', u', sh', g', ps', zs', rfl, up', q⟩ | ⟨T0, ht, hk, q⟩
  rotate_left
  · exact ⟨_, rfl, _, _, _, _, false, rfl, .own _, ht, hk, false, rfl, iteT q⟩
  have al := up.al
  have al' := up'.al
  have hA := pars_asc up.areP
  have hA' := pars_asc up'.areP
  obtain ⟨dx, pv, rs, ks, ws, h1, h2, h3, h4, h5, _, _, h8, h9, _⟩ := up
  obtain ⟨dx', pv', rs', ks', ws', h1', h2', h3', h4', h5', _, _, h8', h9', _⟩ := up'
  refine ⟨_, rfl, _, _, _, _, true, rfl, .own _, T.tyU.ty T.k_Update h1', T.tyU.kit, true, rfl, iteF ?_⟩
  obtain ⟨ds, tv, na, fa, sa, f1, _⟩ := id h8.1
  obtain ⟨ds', tv', na', fa', sa', f1', _⟩ := id h8'.1
  refine ⟨_, rfl, u, _, dx, _, _, rfl, h1, T.k_Update, T.n_Update_shape, rfl, _, rfl, u', _, dx', _, _, rfl, h1', T.k_Update, T.n_Update_shape, rfl, ?_⟩
  refine ⟨sh, _, _, rfl, f1, .ins f1', sh, g, _, _, rfl, h8, .inl ⟨sh', g', _, rfl, h8', ?_⟩⟩
  refine ⟨_, rfl, _, rfl, ?_⟩
  by_cases c1 : g.tr.text = g'.tr.text
  rotate_left
  · rw [decide_eq_false (fun z => c1 z.1)] at q
    exact iteN c1 q
  refine iteY c1 ?_
  refine ⟨_, rfl, u, _, dx, _, _, rfl, h1, T.k_Update, T.n_Update_parameters, rfl, _, rfl, u', _, dx', _, _, rfl, h1', T.k_Update, T.n_Update_parameters, rfl, parsD ps, parsD ps', h3.dp, h3'.dp, pars_sh (fun m hm => ⟨(hA m hm).1.1, (hA m hm).2.1⟩), pars_sh (fun m hm => ⟨(hA' m hm).1.1, (hA' m hm).2.1⟩), ?_⟩
  rw [pars_eqv]
  refine ⟨_, rfl, ?_⟩
  by_cases c2 : ps = ps'
  rotate_left
  · rw [decide_eq_false (fun z => c2 z.2.1)] at q
    exact iteN c2 q
  refine iteY c2 ?_
  refine ⟨_, rfl, u, _, dx, _, _, rfl, h1, T.k_Update, T.n_Update_rows, rfl, _, rfl, u', _, dx', _, _, rfl, h1', T.k_Update, T.n_Update_rows, rfl, .tuple (zs.map PyData.str), .tuple (zs'.map PyData.str), .tup (.inl (.inl h4)) (strs_dt (N := []) zs).dp, .tup (.inl (.inl h4')) (strs_dt (N := []) zs').dp, strsT_sh (fun z hz => (al z hz).1), strsT_sh (fun z hz => (al' z hz).1), ?_⟩
  rw [strsT_eqv]
  have e : decide (g.tr.text = g'.tr.text ∧ ps = ps' ∧ zs = zs') = decide (zs = zs') := by
    by_cases c3 : zs = zs'
    · rw [decide_eq_true c3, decide_eq_true ⟨c1, c2, c3⟩]
    · rw [decide_eq_false c3, decide_eq_false (fun z => c3 z.2.2)]
  rw [e] at q
  exact q
theorem sc_Update___str__ : FnScope ["self"] ["self"] (defScope s_Update___str__) := ⟨rfl, rfl, rfl, by decide +kernel, rfl, by decide +kernel, by decide +kernel⟩
theorem ok_ustr {fd : FuncData} (F : Df K ("Update", some "__str__") "__str__" "Update.__str__" s_Update___str__ [] fd) (T : Tx K mg) :
    FnOk P w K mg base CX0 1 (He.fAd K ("Update", some "__str__")) fd ["self"] (sp_ustr K) := by
  refine F.ok sc_Update___str__ (fun vs H Q E h => by obtain ⟨_, _, _, _, _, _, rfl, _⟩ := h; rfl) (fun cdv A outer s H vs Q E hr h => ?_)
  obtain ⟨N, u, sh, g, ps, zs, rfl, up, q⟩ := h
  refine ⟨_, PSs.nox (pss_one (ps_ret (pe_join pe_str (pe_fldK K (pv 0) rfl)))), ?_⟩
  have al := up.al
  have ln := up.few.len
  obtain ⟨dx, pv, rs, ks, ws, h1, h2, h3, h4, h5, _⟩ := up
  refine ⟨⟨_, rfl⟩, _, rfl, u, _, dx, _, _, rfl, h1, T.k_Update, T.n_Update_rows, rfl, "\n", rs, zs, rfl, rfl, .inr (.inl (.inl h4)), ?_, ?_⟩
  · have e1 : ("\n" : Str).length = 1 := by decide +kernel
    rw [e1]
    have := al_sum al
    omega
  · rw [TL.join_eq]
    exact q
end
end Lx

namespace Rw
open PySem PySem.Spec PyProof.Rows L2 Ub Ur Ug Ue Up Uo Ve Va Vk
/-! ### an update's text is read back -/
theorem starts_app (a b : Str) : Txt.startswith (a ++ b) a = true := by
  unfold Txt.startswith
  rw [PySem.StrLaws.subAt_eq, Bool.and_eq_true]
  refine ⟨decide_eq_true (by rw [len_app]; omega), ?_⟩
  show ((cs (a ++ b)).drop 0).take a.length == cs a
  rw [List.drop_zero, cs_app, ← cs_len a, List.take_left]
  exact beq_self_eq_true _
theorem ends_app (a b : Str) : Txt.endswith (a ++ b) b = true := by
  unfold Txt.endswith
  rw [PySem.StrLaws.subAt_eq, Bool.and_eq_true]
  refine ⟨decide_eq_true (by rw [len_app]; omega), ?_⟩
  show ((cs (a ++ b)).drop ((a ++ b).length - b.length)).take b.length == cs b
  rw [len_app, Nat.add_sub_cancel, cs_app, ← cs_len a, List.drop_left, ← cs_len b, List.take_length]
  exact beq_self_eq_true _
theorem cut_mid3 {a b c : Str} {i j : Int} (hi : i = (a.length : Int)) (hj : j = -(c.length : Int)) (hc : 0 < c.length) : cutS (a ++ b ++ c) (some i) (some j) = b := by
  apply str_inj
  have hl : (a ++ b ++ c).length = a.length + b.length + c.length := by rw [len_app, len_app]
  have e1 : HT.sIx (a ++ b ++ c).length 0 (some i) = a.length := by rw [hi, HT.sIx_nat, hl]; omega
  have e2 : HT.sIx (a ++ b ++ c).length (a ++ b ++ c).length (some j) = a.length + b.length := by
    show (if j < 0 then (j + ((a ++ b ++ c).length : Int)).toNat else _) = _
    rw [if_pos (by omega), hl]
    omega
  unfold cutS
  rw [e1, e2]
  show ((cs (a ++ b ++ c)).drop a.length).take (a.length + b.length - a.length) = cs b
  rw [cs_app, cs_app, List.append_assoc, ← cs_len a, List.drop_left, Nat.add_sub_cancel_left, ← cs_len b, List.take_left]
theorem cut_tail {a b : Str} {i : Int} (hi : i = (a.length : Int)) : cutS (a ++ b) (some i) none = b := by
  apply str_inj
  have e1 : HT.sIx (a ++ b).length 0 (some i) = a.length := by rw [hi, HT.sIx_nat, len_app]; omega
  unfold cutS
  rw [e1, HT.sIx_none]
  show ((cs (a ++ b)).drop a.length).take ((a ++ b).length - a.length) = cs b
  rw [cs_app, ← cs_len a, List.drop_left, len_app, cs_len, Nat.add_sub_cancel_left, ← cs_len b, List.take_length]
def pcs : List (Str × Tr) → List Nat
  | [] => []
  | m :: r => cs m.1 ++ 58 :: 32 :: (tcs m.2 ++ (if r.isEmpty then [] else 44 :: 32 :: pcs r))
theorem parsS_in : ∀ {n : Nat} {r : List (Str × Tr)}, r ≠ [] → r.length ≤ n → (∀ m ∈ r, isWord m.1 = true ∧ Fine 3 m.2) → parsS n (pcs r) = some (txts r)
  | _, [], h, _, _ => absurd rfl h
  | 0, m :: r, _, h, _ => by simp at h
  | n + 1, m :: r, _, hl, ok => by
    obtain ⟨hw, hf⟩ := ok m (List.mem_cons_self ..)
    have e1 : scanW (pcs (m :: r)) = some m.1 := scanW_of hw _
    have e2 : (pcs (m :: r)).drop (m.1.length + 2) = tcs m.2 ++ (if r.isEmpty then [] else 44 :: 32 :: pcs r) := by
      show (cs m.1 ++ 58 :: 32 :: (tcs m.2 ++ _)).drop _ = _
      rw [← cs_len, ← List.drop_drop, List.drop_left]
      rfl
    rw [parsS_step e1 (by rw [e2]; exact scanS_in 3 m.2 _ hf)]
    cases r with
    | nil => rfl
    | cons m' r =>
      have ih := parsS_in (n := n) (r := m' :: r) (by simp) (by simp only [List.length_cons] at hl ⊢; omega) fun x hx => ok x (List.mem_cons_of_mem _ hx)
      show (parsS n (pcs (m' :: r))).map _ = _
      rw [ih]
      rfl
def pairsT (ps : Prs) : Str := Str.join ", " (ps.map fun m => m.1 ++ ": " ++ m.2)
theorem pairs_cs : ∀ r : List (Str × Tr), cs (pairsT (txts r)) = pcs r
  | [] => rfl
  | [m] => by
    show cs (m.1 ++ ": " ++ m.2.text) = cs m.1 ++ 58 :: 32 :: (tcs m.2 ++ [])
    rw [cs_app, cs_app, cs_text, colon_cs]
    simp
  | m :: m' :: r => by
    have ih := pairs_cs (m' :: r)
    have e : pairsT (txts (m :: m' :: r)) = (m.1 ++ ": " ++ m.2.text) ++ ", " ++ pairsT (txts (m' :: r)) := rfl
    rw [e, cs_app, cs_app, cs_app, cs_app, ih, cs_text, colon_cs, cs_comma]
    show _ = cs m.1 ++ 58 :: 32 :: (tcs m.2 ++ 44 :: 32 :: pcs (m' :: r))
    simp
theorem readPs_in {r : List (Str × Tr)} (ok : PsOk r) : readPs (pairsT (txts r)) = some (txts r) := by
  unfold readPs
  cases r with
  | nil => exact if_pos rfl
  | cons m r =>
    rw [if_neg, pairs_cs, parsS_in (by simp) ok.len fun x hx => ⟨(ok.ok x hx).1, (ok.ok x hx).2.1⟩]
    intro e
    have h := pairs_cs (m :: r)
    rw [e] at h
    have : (58 : Nat) ∈ pcs (m :: r) := List.mem_append_right _ (List.mem_cons_self ..)
    rw [← h] at this
    exact absurd this (by decide +kernel)
/-- the first line of an update's text -/
def headT (nm : Str) (ps : Prs) : Str := "update " ++ nm ++ "(" ++ pairsT ps ++ "):"
theorem let40 : isLet 40 = false := by decide +kernel
theorem rhead_in {nm : Str} {r : List (Str × Tr)} (hn : isWord nm = true) (ok : PsOk r) : rheadM (headT nm (txts r)) = some (nm, txts r) := by
  have n40 : 40 ∉ cs nm := fun h => by have := isWord_low hn 40 h; rw [let40] at this; cases this
  have e0 : headT nm (txts r) = "update " ++ (nm ++ "(" ++ pairsT (txts r)) ++ "):" := str_inj (by simp only [headT, cs_app, List.append_assoc])
  have e0' : headT nm (txts r) = "update " ++ ((nm ++ "(" ++ pairsT (txts r)) ++ "):") := str_inj (by simp only [headT, cs_app, List.append_assoc])
  have e1 : cutS (headT nm (txts r)) (some 7) (some (-2)) = nm ++ "(" ++ pairsT (txts r) := by
    rw [e0]
    exact cut_mid3 (by decide +kernel) (by decide +kernel) (by decide +kernel)
  have e2 : Txt.partition (nm ++ "(" ++ pairsT (txts r)) "(" = (nm, ("(" : Str), pairsT (txts r)) := TL.partition_app (s := 40) (S := []) (by decide +kernel) n40
  unfold rheadM
  rw [if_pos ⟨by rw [e0']; exact starts_app _ _, by rw [e0]; exact ends_app _ _⟩, e1, e2]
  dsimp only
  rw [if_neg (by rw [hn]; exact fun h => by rcases h with h | h <;> exact absurd h (by decide +kernel)), readPs_in ok]
  dsimp only
  rw [if_pos ok.areP]
/-! ### no line feed -/
def Nl (z : Str) : Prop := 10 ∉ cs z
theorem Nl.app {a b : Str} (h : Nl a) (k : Nl b) : Nl (a ++ b) := fun hc => by
  rw [cs_app] at hc
  rcases List.mem_append.mp hc with hc | hc
  · exact h hc
  · exact k hc
theorem nl_word {w : Str} (h : isWord w = true) : Nl w := fun hc => by
  have := isWord_low h 10 hc
  exact absurd this (by decide +kernel)
theorem nl_path {t : Tr} (gd : good t) {p : Str} {u : Tr} (h : (p, u) ∈ paths t) : Nl p := no_code (path_ch 3 (good_has gd).1 gd _ h) (by decide) (by decide +kernel)
theorem nl_part {x y : Str} (hy : Nl y) (h1 : Nl (Txt.partition x y).1) (h2 : Nl (Txt.partition x y).2.2) : Nl x := by
  have := part_sum x y
  rw [← this]
  refine (h1.app ?_).app h2
  rcases part_sep x y with e | e
  · rw [e]; exact fun hc => absurd hc (by decide +kernel)
  · rw [e]; exact hy
theorem nl_of {z : Str} (h : (cs z).contains 10 = false) : Nl z := by
  intro hc
  have : (cs z).contains 10 = true := by simpa using hc
  rw [this] at h
  cases h
theorem atM_nl {t : Tr} (h : good t) {p : Str} {u : Tr} (e : atM t p = some u) : Nl p := by
  unfold atM at e
  split at e
  · cases e
  · exact nl_path h (lookup_in e)
theorem givenM_nl : ∀ {ps : Prs}, (∀ m ∈ ps, isWord m.1 = true) → ∀ {z : Str} {r : Str × Str × Str}, givenM ps z = some r → Nl z
  | [], _, _, _, h => nomatch h
  | p :: ps, hw, z, r, h => by
    have h : (if p.1 = z then some (("given" : Str), p.1, p.2) else givenM ps z) = some r := h
    split at h
    · rename_i e
      rw [← e]
      exact nl_word (hw p (List.mem_cons_self ..))
    · exact givenM_nl (fun m hm => hw m (List.mem_cons_of_mem _ hm)) h
theorem termM_nl {t : Tr} (h : good t) {ps : Prs} (hw : ∀ m ∈ ps, isWord m.1 = true) {z : Str} {r : Str × Str × Str} (e : termM t ps z = some r) : Nl z := by
  unfold termM at e
  cases eg : givenM ps z with
  | some q => exact givenM_nl hw eg
  | none =>
    rw [eg] at e
    dsimp only at e
    have pth : ∀ {s p : Str}, pathM t s p = some r → Nl p := fun {s p} e => by
      unfold pathM at e
      cases ea : atM t p with
      | none => rw [ea] at e; cases e
      | some u => exact atM_nl h ea
    cases es : srcM z with
    | none => rw [es] at e; cases e
    | some q =>
      obtain ⟨s, p⟩ := q
      rw [es] at e
      have hp := pth e
      unfold srcM at es
      split at es
      · cases es
        exact hp
      · split at es
        · rename_i ho
          cases es
          refine nl_part (nl_of (by decide +kernel)) ?_ hp
          rcases ho with ho | ho <;> rw [ho] <;> exact nl_of (by decide +kernel)
        · cases es
theorem rowM_nl {t : Tr} (h : good t) {ps : Prs} (hw : ∀ m ∈ ps, isWord m.1 = true) {z : Str} {r : Str × Str × Str × Str} (e : rowM t ps z = some r) : Nl z := by
  unfold rowM at e
  split at e
  · cases e
  · split at e
    · cases e
    · rename_i hm
      have hm := Classical.not_not.mp hm
      cases ea : atM t (Txt.partition (headM z) " ").2.2 with
      | none => rw [ea] at e; cases e
      | some u =>
        rw [ea] at e
        dsimp only at e
        cases et : termM t ps (Txt.partition z " = ").2.2 with
        | none => rw [et] at e; cases e
        | some q =>
          have hmk : Nl (Txt.partition (headM z) " ").1 := by
            have := List.all_eq_true.mp (show marks.all (fun m => !(cs m).contains 10) = true by decide +kernel) _ hm
            exact nl_of (by simpa using this)
          have h1 : Nl (headM z) := nl_part (nl_of (by decide +kernel)) hmk (atM_nl h ea)
          exact nl_part (nl_of (by decide +kernel)) h1 (termM_nl h hw et)
theorem fitsM_nl {t : Tr} (h : good t) {ps : Prs} (hw : ∀ m ∈ ps, isWord m.1 = true) {rs : List Str} {z : Str} (e : fitsM t ps rs z = true) : Nl z := by
  unfold fitsM at e
  split at e
  · rename_i ez
    rw [ez]
    exact nl_of (by decide +kernel)
  · rw [Bool.and_eq_true] at e
    obtain ⟨r, hr⟩ := Option.isSome_iff_exists.mp e.2
    exact rowM_nl h hw hr
theorem bad_nl {t : Tr} (h : good t) {ps : Prs} (hw : ∀ m ∈ ps, isWord m.1 = true) : ∀ {os rs : List Str} {i : Nat}, badAt t ps rs (os.map some) i = none → ∀ z ∈ os, Nl z
  | [], _, _, _, z, hz => nomatch hz
  | o :: os, rs, i, e, z, hz => by
    have e : (if fitsV t ps rs (some o) = true then badAt t ps (rs ++ [o]) (os.map some) (i + 1) else some i) = none := e
    by_cases c : fitsV t ps rs (some o) = true
    · rw [if_pos c] at e
      rcases List.mem_cons.mp hz with rfl | hz
      · exact fitsM_nl h hw c
      · exact bad_nl h hw e z hz
    · rw [if_neg c] at e
      cases e
theorem fcs_nl : ∀ {t : Tr}, Tr.lows t → 10 ∉ fcs t ∧ 10 ∉ tcs t
  | .nil, _ => ⟨(fun hc => nomatch hc), fun hc => by
    have e : (10 : Nat) = 46 := by simpa [tcs, Tr.isNil] using hc
    omega⟩
  | .cons w t r, ⟨h1, h2, h3⟩ => by
    obtain ⟨_, a2⟩ := fcs_nl h2
    obtain ⟨b1, _⟩ := fcs_nl h3
    have hw := nl_word h1
    have k : 10 ∉ fcs (.cons w t r) := fun hc => by
      rw [fcs_cons, List.mem_append, List.mem_cons, List.mem_cons, List.mem_append] at hc
      rcases hc with hc | hc | hc | hc | hc
      · exact hw hc
      · omega
      · omega
      · exact a2 hc
      · by_cases hr : r.isNil = true
        · rw [if_pos hr] at hc
          exact nomatch hc
        · rw [if_neg hr, List.mem_cons, List.mem_cons] at hc
          rcases hc with hc | hc | hc
          · omega
          · omega
          · exact b1 hc
    refine ⟨k, fun hc => ?_⟩
    have e : tcs (.cons w t r) = 123 :: (fcs (.cons w t r) ++ [125]) := rfl
    rw [e, List.mem_cons, List.mem_append] at hc
    rcases hc with hc | hc | hc
    · omega
    · exact k hc
    · have : (10 : Nat) = 125 := by simpa using hc
      omega
theorem text_nl {f : Nat} {t : Tr} (h : Fine f t) : Nl t.text := fun hc => by
  rw [cs_text] at hc
  exact (fcs_nl (fine_lows h)).2 hc
theorem join_nl {y : Str} (hy : Nl y) : ∀ {ws : List Str}, (∀ z ∈ ws, Nl z) → Nl (Str.join y ws)
  | [], _ => fun hc => nomatch hc
  | [x], h => h x (by simp)
  | x :: x2 :: r, h => ((h x (by simp)).app hy).app (join_nl hy (ws := x2 :: r) fun z hz => h z (List.mem_cons_of_mem _ hz))
theorem head_nl {nm : Str} {r : List (Str × Tr)} (hn : isWord nm = true) (ok : PsOk r) : Nl (headT nm (txts r)) := by
  have hp : Nl (pairsT (txts r)) := join_nl (nl_of (by decide +kernel)) fun z hz => by
    obtain ⟨m, hm, rfl⟩ := List.mem_map.mp hz
    obtain ⟨m', hm', rfl⟩ := List.mem_map.mp hm
    exact ((nl_word (ok.ok m' hm').1).app (nl_of (by decide +kernel))).app (text_nl (ok.ok m' hm').2.1)
  exact ((((nl_of (by decide +kernel)).app (nl_word hn)).app (nl_of (by decide +kernel))).app hp).app (nl_of (by decide +kernel))
/-! ### the whole text -/
def lineT (z : Str) : Str := "    " ++ z
def textU (nm : Str) (ps : Prs) (zs : List Str) : Str := Str.join "\n" (headT nm ps :: zs.map lineT)
theorem split_lines {parts : List Str} (hne : parts ≠ []) (h : ∀ p ∈ parts, Nl p) : Txt.split (Str.join "\n" parts) "\n" = parts := by
  rw [← TL.join_eq]
  exact TL.split_join (s := 10) (S := []) (by decide +kernel) (by decide +kernel) hne h
theorem lines_in {t : Tr} {ps : Prs} : ∀ {zs rs : List Str} {i j : Nat}, badAt t ps rs (zs.map some) j = none → linesM t ps rs (zs.map lineT) i = .inr (rs ++ zs)
  | [], rs, i, j, _ => by
    show Sum.inr rs = _
    rw [List.append_nil]
  | z :: zs, rs, i, j, h => by
    have h : (if fitsV t ps rs (some z) = true then badAt t ps (rs ++ [z]) (zs.map some) (j + 1) else some j) = none := h
    by_cases c : fitsV t ps rs (some z) = true
    · rw [if_pos c] at h
      show (if Txt.startswith (lineT z) "    " = true ∧ fitsM t ps rs (cutS (lineT z) (some 4) none) = true then linesM t ps (rs ++ [cutS (lineT z) (some 4) none]) (zs.map lineT) (i + 1) else .inl (i + 1)) = _
      have e : cutS (lineT z) (some 4) none = z := cut_tail (by decide +kernel)
      rw [e, if_pos ⟨starts_app _ _, c⟩, lines_in h, List.append_assoc]
      rfl
    · rw [if_neg c] at h
      cases h
theorem read_in {t : Tr} {nm : Str} {r : List (Str × Tr)} {zs : List Str} (gd : good t) (hn : isWord nm = true) (ok : PsOk r) (hb : badAt t (txts r) [] (zs.map some) 0 = none) : readM t (textU nm (txts r) zs) = .inr (txts r, zs) := by
  have hs : Txt.split (textU nm (txts r) zs) "\n" = headT nm (txts r) :: zs.map lineT := split_lines (by simp) fun p hp => by
    rcases List.mem_cons.mp hp with rfl | hp
    · exact head_nl hn ok
    · obtain ⟨z, hz, rfl⟩ := List.mem_map.mp hp
      exact (nl_of (by decide +kernel)).app (bad_nl gd (areP_words ok.areP) hb z hz)
  unfold readM
  rw [hs]
  dsimp only
  rw [rhead_in hn ok]
  dsimp only
  rw [lines_in hb]
  rfl
theorem textU_snoc (nm : Str) (ps : Prs) (zs : List Str) (z : Str) : textU nm ps (zs ++ [z]) = textU nm ps zs ++ "\n    " ++ z := by
  unfold textU
  rw [List.map_append]
  have go : ∀ (a : Str) (l : List Str) (x : Str), Str.join "\n" (a :: (l ++ [x])) = Str.join "\n" (a :: l) ++ "\n" ++ x := by
    intro a l
    induction l generalizing a with
    | nil => intro x; rfl
    | cons b l ih =>
      intro x
      show a ++ "\n" ++ Str.join "\n" (b :: (l ++ [x])) = (a ++ "\n" ++ Str.join "\n" (b :: l)) ++ "\n" ++ x
      rw [ih b x]
      exact str_inj (by simp only [cs_app, List.append_assoc])
  show Str.join "\n" (headT nm ps :: (zs.map lineT ++ [lineT z])) = _
  rw [go]
  have e : ("\n    " : Str) = "\n" ++ "    " := by decide +kernel
  rw [e]
  unfold lineT
  exact str_inj (by simp only [cs_app, List.append_assoc])
end Rw

namespace Rw
open PySem PySem.Spec PyProof.Rows L2 Ub Ur Ug Ue Up Uo Ve Va Vk
/-! ### C.m(e, ..), m a classmethod that may raise -/
structure CalC (P : Program) (w : World) (K : PySem.W.Frag) (mg : Str → Option Value) (base : Heap) (k : Nat) (x m : Str) (ps : List Str) (sp : Sp) : Prop where
  ex : ∃ fd, Ya.ClM K x m ∧ FnOk P w K mg base (L2.CX P w) k (Ya.cAd K x m) fd ps sp ∧ Binds K fd ps [] ∧ mg x = some (.ref (He.ga K x))
def tCMethE (C : Addr) (sp : Sp) (E : L2.St → XK) (t : TA) : TE := fun σ H Q => t σ H fun vs H2 => sp (.ref C :: vs) H2 Q (E σ)
theorem pe_cmE {X : Cx} {k : Nat} {x m : Str} {ps : List Str} {sp : Sp} {E : L2.St → XK} {e : Expr} {es : List Expr} {p apos pos : Pos} {t : TA} {pl : Sem Bool} (c : CalC X.prog X.w X.K X.mg X.base k x m ps sp) (hx : ∀ σ, PassesAt (L2.CX X.prog X.w) X σ (E σ)) (hr : Room k X.A) (hg : Gl X x) (ha : PA X (e :: es) t) (hdb : (x == ("__debug__" : Str)) = false := by decide)
    (hst : starEach (e :: es) X.env = (false, eval e X.env) :: starEach es X.env := by rfl) (hpl : (backTo pos (starEach es X.env)).any (·.1) = false := by rfl)
    (ht : eval (.Call (.Attribute (.Name x p) m apos) (e :: es) [] pos) X.env = (do
      let ov ← eval (.Name x p) X.env
      standAt apos.atName
      let (f, first) ← holding [ov] (getMethod ov m pl)
      callWith pos f first (backTo pos (starEach (e :: es) X.env)) (backToKw pos (keywordEach [] X.env))) := by rfl) :
    PE X (.Call (.Attribute (.Name x p) m apos) (e :: es) [] pos) (tCMethE (He.ga X.K x) sp E t) := by
  obtain ⟨fd, cl, F, hb, hm⟩ := c.ex
  refine ⟨fun pins s σ H Q I h => ?_⟩
  refine PySem.W.methodCall_KW (pl := pl) (ld_glob I hg hm ?_ hdb) ht
  refine ClX.getmethcm_ok I cl.rd cl.cm fun s2 I2 => ?_
  refine ClX.callwith_cm I2 (ClX.base_none I (Nat.le_refl _)) cl.cm.fi (thn (ha.run pos _ s2 σ H _ I2 h) fun us s3 ⟨vs, H2, I3, rv, q2⟩ => ⟨⟨ClX.pin_at I3, I3.kIn⟩, ?_⟩) hst hpl
  have r2 : Vals (V.ref (He.ga X.K x) :: vs) (Value.ref (He.ga X.K x) :: us) := .cons rfl rv
  have hl : (Value.ref (He.ga X.K x) :: us).length = ps.length := by
    rw [← r2.length]
    exact F.len _ _ _ _ q2
  have bi := hb s3 (Value.ref (He.ga X.K x) :: us) I3.kIn (by rw [List.append_nil]; exact hl)
  rw [List.append_nil] at bi
  have z : wpAny (model X.prog X.w) X.A (call (.ref _) us) (EP X _ σ Q) X.xe s3 :=
    wpAny_call (PySem.W.method_call (ClX.pin_at I3) (codeAny_mono (F.run X.A X.stack s3 H2 ⟨Value.ref (He.ga X.K x) :: us, []⟩ _ _ Q (E σ) hr I3.env0 bi r2 q2) fun r s' hq => by
      cases r with
      | error e => exact hx σ _ H2 s3 e s' I3 hq
      | ok fl =>
        cases fl with
        | ret u => exact I3.after hq
        | next => exact False.elim hq
        | brk => exact False.elim hq
        | cont => exact False.elim hq))
  exact thn z fun _ _ y => ClX.unpinE y
theorem pe_cmEK (K : PySem.W.Frag) {X : Cx} {k : Nat} {x m : Str} {ps : List Str} {sp : Sp} {E : L2.St → XK} {e : Expr} {es : List Expr} {p apos pos : Pos} {t : TA} {pl : Sem Bool} (c : CalC X.prog X.w X.K X.mg X.base k x m ps sp) (hx : ∀ σ, PassesAt (L2.CX X.prog X.w) X σ (E σ)) (hr : Room k X.A) (hg : Gl X x) (ha : PA X (e :: es) t) (hdb : (x == ("__debug__" : Str)) = false := by decide)
    (hst : starEach (e :: es) X.env = (false, eval e X.env) :: starEach es X.env := by rfl) (hpl : (backTo pos (starEach es X.env)).any (·.1) = false := by rfl)
    (ht : eval (.Call (.Attribute (.Name x p) m apos) (e :: es) [] pos) X.env = (do
      let ov ← eval (.Name x p) X.env
      standAt apos.atName
      let (f, first) ← holding [ov] (getMethod ov m pl)
      callWith pos f first (backTo pos (starEach (e :: es) X.env)) (backToKw pos (keywordEach [] X.env))) := by rfl) (eK : X.K = K := by rfl) :
    PE X (.Call (.Attribute (.Name x p) m apos) (e :: es) [] pos) (tCMethE (He.ga K x) sp E t) := eK ▸ pe_cmE (pl := pl) c hx hr hg ha hdb hst hpl ht
theorem textU_len {nm : Str} {r : List (Str × Tr)} {zs : List Str} (hn : nm.length ≤ 8) (ok : PsOk r) (lz : zs.length ≤ 20) (al : ∀ z ∈ zs, z.length ≤ 100) : (textU nm (txts r) zs).length ≤ 5000 := by
  have h1 : (pairsT (txts r)).length ≤ 3 * 560 + 6 := by
    unfold pairsT
    have hal : ∀ z ∈ (txts r).map (fun m : Str × Str => m.1 ++ (": " : Str) ++ m.2), Al 560 z := fun z hz => by
      obtain ⟨m, hm, rfl⟩ := List.mem_map.mp hz
      obtain ⟨a, b⟩ := pars_asc ok.areP m hm
      have e2 : Al 2 (": " : Str) := ⟨asc_of (by decide +kernel), by decide +kernel⟩
      exact ((a.app e2).app b).mono (by omega)
    have h4 : ((txts r).map (fun m : Str × Str => m.1 ++ (": " : Str) ++ m.2)).length ≤ 3 := by
      unfold txts
      rw [List.length_map, List.length_map]
      exact ok.len
    generalize (txts r).map (fun m : Str × Str => m.1 ++ (": " : Str) ++ m.2) = L at *
    have h0 := Tr.join_len ", " L
    have e2 : (", " : Str).length = 2 := by decide +kernel
    rw [e2] at h0
    have h3 := al_sum hal
    omega
  have h2 : (headT nm (txts r)).length ≤ 1800 := by
    unfold headT
    have e1 : ("update " : Str).length = 7 := by decide +kernel
    have e2 : ("(" : Str).length = 1 := by decide +kernel
    have e3 : ("):" : Str).length = 2 := by decide +kernel
    rw [len_app, len_app, len_app, len_app, e1, e2, e3]
    omega
  have h3 := Tr.join_len "\n" (headT nm (txts r) :: zs.map lineT)
  have e1 : ("\n" : Str).length = 1 := by decide +kernel
  have e4 : ("    " : Str).length = 4 := by decide +kernel
  rw [e1, List.map_cons, List.sum_cons, List.length_cons, List.length_map] at h3
  have h4 : ((zs.map lineT).map (·.length)).sum ≤ zs.length * 104 := by
    clear h3 lz
    induction zs with
    | nil => exact Nat.zero_le _
    | cons z r ih =>
      rw [List.map_cons, List.map_cons, List.sum_cons, List.length_cons, Nat.succ_mul]
      have h1 := al z (List.mem_cons_self ..)
      have h2 := ih fun x hx => al x (List.mem_cons_of_mem _ hx)
      have : (lineT z).length = 4 + z.length := by unfold lineT; rw [len_app, e4]
      omega
  unfold textU
  omega
theorem head_one (ps : Prs) : ("update one(" : Str) ++ pairsT ps ++ "):" = textU "one" ps [] := by
  show _ = "update " ++ "one" ++ "(" ++ pairsT ps ++ "):"
  have e : ("update one(" : Str) = "update " ++ "one" ++ "(" := by decide +kernel
  rw [e]
theorem mkUx {N : List Addr} {K : PySem.W.Frag} {H1 : Hp} {sh : Addr} {g : Sg} {pv : V} {ps : Prs} {zs : List Str} {Q : VK} {E : XK} {x dx : Addr} (ls : LsN N H1) (hs : ShG (fun b => b ∉ N) (He.ga K "Shape") H1 sh g) (gd : good g.tr) (hp : DtV N H1 pv (parsD ps)) (ha : areP (parsD ps) = true)
    (hb : badAt g.tr ps [] (zs.map some) 0 = none) (nx : H1 x = none) (ndx : H1 dx = none) (nne : dx ≠ x) (q : ∀ H', Same H1 H' → UpAt N K H' x sh g ps zs → Q .non H') :
    SpU K (V.ref x :: V.ref sh :: pv :: zs.map V.str) (upd (upd H1 dx (.own x)) x (.ins (He.ga K "Update") dx [])) Q E := by
  have few := bad_few hb Few.nil
  have al := bad_al gd (areP_words ha) hb
  have lz : zs.length ≤ 11 := by simpa using few.len
  obtain ⟨ws, rest, e1, e2, e3, h⟩ := mkU (E := E) (Q := fun v H' => v = .ref x → Q .non H') ls hs gd hp ha hb (fun z hz => Nat.le_trans (al z hz).2 (by omega)) (by omega) (fun x' H' s' _ hu e => by
    cases e
    exact q H' s' hu) x dx nx ndx nne
  refine ⟨ws, rest, e1, e2, e3, fun p np => ?_⟩
  obtain ⟨x0, dx0, sh0, g0, Z0, pv0, d0, rs0, rvs0, os0, r1, r2, r3, r4, r5, r6, r7, r8, r9, r10, r11, r12⟩ := h p np
  refine ⟨x0, dx0, sh0, g0, Z0, pv0, d0, rs0, rvs0, os0, r1, r2, r3, r4, r5, r6, r7, r8, r9, r10, r11, fun ps' hd hA => ?_⟩
  have := r12 ps' hd hA
  revert this
  cases badAt g0.tr ps' [] os0 0 with
  | some i => exact fun h => h
  | none => exact fun h ks ws H' k1 k2 k3 k4 => (h ks ws H' k1 k2 k3 k4).2 rfl
/-! ### the law's making of an update -/
def sp_lupd (K : PySem.W.Frag) : Sp := fun vs H Q _ => ∃ (N : List Addr) (sh : Addr) (g : Sg) (pv : V) (r : List (Str × Tr)) (Lr : Addr) (zs : List Str), vs = [.ref sh, pv, .ref Lr] ∧ LsN N H ∧ ShG (fun b => b ∉ N) (He.ga K "Shape") H sh g ∧ good g.tr ∧ DtV N H pv (parsD (txts r)) ∧ PsOk r ∧ H Lr = some (.lst (zs.map V.str)) ∧ badAt g.tr (txts r) [] (zs.map some) 0 = none ∧
  ∀ D u1 u2 H', Same H H' → H D = none → H' D = some (.lst [.ref u1, .ref u2]) → UpAt N K H' u1 sh g (txts r) zs → UpAt N K H' u2 sh g (txts r) zs → Q (.ref D) H'
end Rw

namespace Lx
open PySem PySem.Spec PyProof.Rows L2 Ub Ur Ug Ue Up Uo Ve Va Vk Rw
section
variable {P : Program} {w : World} {K : PySem.W.Frag} {mg : Str → Option Value} {base : Heap}
theorem sc_law_update : FnScope ["_law_shape", "_law_parameters_here", "_law_rows_here", "_law_made", "_law_pairs", "_law_text_here", "_law_row_here", "_law_word_here", "_law_below"] ["_law_shape", "_law_parameters_here", "_law_rows_here"] (defScope s_law_update) := ⟨rfl, rfl, rfl, by decide +kernel, rfl, by decide +kernel, by decide +kernel⟩
theorem ok_law_update {f : Addr} {fd : FuncData} (F : FunD K "_law_update" "_law_update" (defArgs s_law_update) (defBody s_law_update) (defScope s_law_update) [] [] f fd) (T : Tx K mg) (m_Update : CalR P w K mg base 18 "Update" (He.ga K "Update") (SpU K)) (c_Update_read : CalC P w K mg base 20 "Update" "read" ["cls", "shape", "text"] (sp_read K)) :
    FnOk P w K mg base CX0 21 f fd ["_law_shape", "_law_parameters_here", "_law_rows_here"] (sp_lupd K) := by
  refine F.ok sc_law_update (fun vs H Q E h => by obtain ⟨_, _, _, _, _, _, _, rfl, _⟩ := h; rfl) (fun cdv A outer s H vs Q E hr h => ?_)
  obtain ⟨N, sh, g, pvv, r, Lr, zs, rfl, ls, shg, gd, hp, ok, hL, hb, q⟩ := h
  refine ⟨_, PSs.nox (pss_cons (ps_set (i := 3) sc_law_update.nd rfl (by first | exact Or.inl rfl | exact Or.inr rfl) (pe_makeRS m_Update (fun _ => passE0) (hr.mono (by omega)) (by rfl) (pa_cons (pv 0) (pa_cons (pv 1) pa_nil))))
      (pss_cons (ps_set (i := 4) sc_law_update.nd rfl (by first | exact Or.inl rfl | exact Or.inr rfl) (pe_join pe_str (pe_lc (own := [("_law_word_here", 7), ("_law_below", 8)]) (by rfl) sc_law_update.nd (pi_tupK K (pv 1)) (blkOk_by (N := ["_law_shape", "_law_parameters_here", "_law_rows_here", "_law_made", "_law_pairs", "_law_text_here", "_law_row_here", "_law_word_here", "_law_below"]) (sc := (defScope s_law_update)) (by decide +kernel)) (fun _ _ _ _ _ => (pg_tupK K (n := 2) rfl (pgs_cons (pg_name (i := 7) sc_law_update.nd rfl (by first | exact Or.inl rfl | exact Or.inr rfl)) (pgs_cons (pg_name (i := 8) sc_law_update.nd rfl (by first | exact Or.inl rfl | exact Or.inr rfl)) pgs_nil)))) (fun _ _ _ _ _ => pts_nil) (fun _ _ _ _ _ => (pe_op op_add_str (pe_op op_add_str (pv 7) pe_str) (pv 8))))))
      (pss_cons (ps_set (i := 5) sc_law_update.nd rfl (by first | exact Or.inl rfl | exact Or.inr rfl) (pe_op op_add_str (pe_op op_add_str pe_str (pv 4)) pe_str))
      (pss_cons (ps_for PassesOwn.never rfl (pi_listK K (pv 2)) (pg_name (i := 6) sc_law_update.nd rfl (by first | exact Or.inl rfl | exact Or.inr rfl))
        (pss_one (ps_set (i := 5) sc_law_update.nd rfl (by first | exact Or.inl rfl | exact Or.inr rfl) (pe_op op_add_str (pe_op op_add_str (pv 5) pe_str) (pv 6)))))
      (pss_cons (ps_set (i := 3) sc_law_update.nd rfl (by first | exact Or.inl rfl | exact Or.inr rfl) (pe_cmEK K c_Update_read (fun _ => passE0) (hr.mono (by omega)) (by rfl) (pa_cons (pv 0) (pa_cons (pv 5) pa_nil))))
      (pss_cons (ps_if (pt_cmpR op_eq (pe_callB (call_len_seqK K) (by rfl) T.len (by decide +kernel) (pa_cons (pv 2) pa_nil)) pe_int (nomark _))
        (pss_one (ps_ret (pe_lst (pa_cons (pv 3) (pa_cons (pe_makeRS m_Update (fun _ => passE0) (hr.mono (by omega)) (by rfl) (pa_cons (pv 0) (pa_cons (pv 1) pa_nil))) pa_nil)))))
        pss_nil)
      (pss_cons (ps_if (pt_cmpR op_eq (pe_callB (call_len_seqK K) (by rfl) T.len (by decide +kernel) (pa_cons (pv 2) pa_nil)) pe_int (nomark _))
        (pss_one (ps_ret (pe_lst (pa_cons (pv 3) (pa_cons (pe_makeRS m_Update (fun _ => passE0) (hr.mono (by omega)) (by rfl) (pa_cons (pv 0) (pa_cons (pv 1) (pa_cons (pe_ix (ix_listK K) (pv 2) pe_int (fun _ _ => rfl)) pa_nil)))) pa_nil)))))
        pss_nil)
      (pss_cons (ps_if (pt_cmpR op_eq (pe_callB (call_len_seqK K) (by rfl) T.len (by decide +kernel) (pa_cons (pv 2) pa_nil)) pe_int (nomark _))
        (pss_one (ps_ret (pe_lst (pa_cons (pv 3) (pa_cons (pe_makeRS m_Update (fun _ => passE0) (hr.mono (by omega)) (by rfl) (pa_cons (pv 0) (pa_cons (pv 1) (pa_cons (pe_ix (ix_listK K) (pv 2) pe_int (fun _ _ => rfl)) (pa_cons (pe_ix (ix_listK K) (pv 2) pe_int (fun _ _ => rfl)) pa_nil))))) pa_nil)))))
        pss_nil)
      (pss_one (ps_ret (pe_lst (pa_cons (pv 3) (pa_cons (pe_cmEK K c_Update_read (fun _ => passE0) (hr.mono (by omega)) (by rfl) (pa_cons (pv 0) (pa_cons (pv 5) pa_nil))) pa_nil))))))))))))), ?_⟩
  have aP := ok.areP
  have few := bad_few hb Few.nil
  have al := bad_al gd (areP_words aP) hb
  have lz := few.len
  have lz' : zs.length ≤ 11 := by simpa using lz
  -- an update without rows
  refine ⟨_, rfl, _, rfl, ?_⟩
  intro x dx nx ndx nne
  refine mkUx (zs := []) ls shg gd hp aP rfl nx ndx nne fun H1 s1 _ => ⟨rfl, ?_⟩
  -- the pairs
  obtain ⟨p, qs, rfl, ep, lqs, hqs⟩ := pars_at (hp.same s1)
  have lr : (txts r).length ≤ 3 := by unfold txts; rw [List.length_map]; exact ok.len
  refine ⟨⟨_, rfl⟩, _, rfl, p, rfl, ⟨_, .inl (.inl ep)⟩, fun D hD => ?_⟩
  have hA := pars_asc aP
  have e2 : (": " : Str).length = 2 := by decide +kernel
  refine lcM (walk_tup (K := K) (a := p) (xs := qs.map V.ref)) (txts r) (by rw [List.length_map, lqs]) (fun m : Str × Str => some (.str (m.1 ++ (": " : Str) ++ m.2))) (fun H s => Same.tup s (.inl (.inl ep))) (sz5 (by rw [List.length_map]; omega)) hD (fun i v m H' hx hm s' => ?_) (fun H2 s2 e4 => ?_)
  · obtain ⟨q0, h1, h2⟩ := hqs i m hm
    obtain rfl : v = .ref q0 := by
      rw [List.getElem?_map, h1] at hx
      exact (Option.some.inj hx).symm
    obtain ⟨⟨_, a1⟩, ⟨_, a2⟩⟩ := hA m (List.mem_of_getElem? hm)
    intro Q1 Q0 b1 b0
    exact ⟨q0, _, rfl, .inl (.inl (s' _ _ h2)), rfl, _, _, rfl, _, _, rfl, rfl, rfl, _, rfl, _, _, rfl, rfl, sz5 (by rw [e2]; omega), _, rfl, _, _, rfl, rfl, sz5 (by rw [len_app, e2]; omega), b1 _ _ rfl (Same.refl _)⟩
  have el : ((txts r).filterMap fun m : Str × Str => some (V.str (m.1 ++ (": " : Str) ++ m.2))) = ((txts r).map fun m : Str × Str => m.1 ++ (": " : Str) ++ m.2).map V.str := by
    rw [List.filterMap_eq_map', List.map_map]
    rfl
  rw [el] at e4
  have hal : ∀ z ∈ (txts r).map (fun m : Str × Str => m.1 ++ (": " : Str) ++ m.2), Al 560 z := fun z hz => by
    obtain ⟨m, hm, rfl⟩ := List.mem_map.mp hz
    obtain ⟨a, b⟩ := hA m hm
    have e2 : Al 2 (": " : Str) := ⟨asc_of (by decide +kernel), by decide +kernel⟩
    exact ((a.app e2).app b).mono (by omega)
  have tl1 := textU_len (nm := "one") (zs := []) (by decide +kernel) ok (by decide) (fun _ h => nomatch h)
  refine ⟨", ", D, _, rfl, rfl, .inl (.inl (.inl e4)), ?_, ?_⟩
  · have h0 := al_sum hal
    have h4 : ((txts r).map (fun m : Str × Str => m.1 ++ (": " : Str) ++ m.2)).length ≤ 3 := by rw [List.length_map]; exact lr
    have e2 : (", " : Str).length = 2 := by decide +kernel
    rw [e2]
    omega
  rw [TL.join_eq]
  have ht := head_one (txts r)
  have hpl : (pairsT (txts r)).length ≤ 5000 := by
    have := congrArg Str.length ht
    rw [len_app, len_app] at this
    omega
  have h12 : ("update one(" : Str).length = 11 := by decide +kernel
  have h13 : ("):" : Str).length = 2 := by decide +kernel
  refine ⟨_, rfl, "update one(", pairsT (txts r), rfl, rfl, sz5 (by rw [h12]; omega), _, _, rfl, rfl, sz5 (by rw [len_app, h12, h13]; omega), ?_⟩
  rw [ht]
  have s02 := s1.trans s2
  have hL2 := s02 _ _ hL
  refine ⟨_, rfl, Lr, rfl, ⟨_, .inl (.inl hL2)⟩, ?_⟩
  refine for_it (walk_list (K := K) (a := Lr) (xs := zs.map V.str)) (fun i σ HH => ∃ y6 : Option V, σ = [some (.ref sh), some (.ref p), some (.ref Lr), some (.ref x), some (.str (pairsT (txts r))), some (.str (textU "one" (txts r) (zs.take i))), y6, none, none] ∧ HH = H2) ?_ (fun i σ HH _ pp => ?_) (fun i v σ HH HH' hi pp y => ?_) (fun σ HH pp => ?_)
  · exact ⟨none, rfl, rfl⟩
  · obtain ⟨_, _, rfl⟩ := pp
    exact .inl (.inl hL2)
  · obtain ⟨y6, rfl, rfl⟩ := pp
    obtain ⟨rfl, hx⟩ := y
    have hiz : i < zs.length := by rw [← List.length_map (f := V.str)]; exact hi
    obtain ⟨z, hz⟩ : ∃ z, zs[i]? = some z := ⟨_, List.getElem?_eq_getElem hiz⟩
    obtain rfl : v = .str z := by
      rw [List.getElem?_map, hz] at hx
      exact (Option.some.inj hx).symm
    have tl := textU_len (nm := "one") (zs := zs.take i) (by decide +kernel) ok (by rw [List.length_take]; omega) (fun z hz => Nat.le_trans (al z (List.mem_of_mem_take hz)).2 (by omega))
    have lzz := (al z (List.mem_of_getElem? hz)).2
    have h5 : ("\n    " : Str).length = 5 := by decide +kernel
    have et : zs.take (i + 1) = zs.take i ++ [z] := by rw [List.take_add_one, hz]; rfl
    dsimp only [gName]
    refine ⟨_, rfl, _, _, rfl, rfl, sz5 (by rw [h5]; omega), _, rfl, _, _, rfl, rfl, sz5 (by rw [len_app, h5]; omega), ?_⟩
    refine ⟨some (.str z), ?_, rfl⟩
    rw [et, textU_snoc]
    rfl
  obtain ⟨y6, rfl, rfl⟩ := pp
  rw [List.length_map, List.take_length]
  have tl := textU_len (nm := "one") (zs := zs) (by decide +kernel) ok (by omega) (fun z hz => Nat.le_trans (al z hz).2 (by omega))
  have ls2 := ls.same s02
  have sh2 := shg.kz (kz_of s02)
  have rd := read_in (nm := "one") gd (by decide +kernel) ok hb
  refine ⟨_, rfl, _, rfl, N, sh, g, _, rfl, ls2, sh2, gd, .inl ⟨_, rfl, by omega, ?_⟩⟩
  rw [rd]
  intro u1 H3 s3 nu1 up1
  have s03 := s02.trans s3
  have ls3 := ls.same s03
  have sh3 := shg.kz (kz_of s03)
  have hp3 := hp.same s03
  have hL3 := s03 _ _ hL
  have fin : ∀ (u2 : Addr) (H4 : Hp), Same H3 H4 → UpAt N K H4 u2 sh g (txts r) zs → [V.ref u1, V.ref u2].length ≤ sizeLine ∧ ∀ D', H4 D' = none → Q (.ref D') (upd H4 D' (.lst [.ref u1, .ref u2])) := fun u2 H4 s4 up2 => ⟨by show 2 ≤ sizeLine; decide, fun D' nD' => by
    have s5 := same_upd (o := .lst [.ref u1, .ref u2]) nD'
    have ls4 := ls3.same s4
    exact q D' u1 u2 _ ((s03.trans s4).trans s5) ((s03.trans s4).free nD') upd_same (up1.kn ls3 (Kn.of (s4.trans s5))) (up2.kn ls4 (Kn.of s5))⟩
  dsimp only [gName]
  refine ⟨_, rfl, Lr, _, rfl, .inl (.inl (.inl hL3)), rfl, _, rfl, ?_⟩
  rw [List.length_map]
  by_cases c0 : zs.length = 0
  · refine iteY (by rw [c0]; rfl) ⟨_, rfl, _, rfl, _, rfl, ?_⟩
    intro x' dx' nx' ndx' nne'
    refine mkUx (zs := []) ls3 sh3 gd hp3 aP rfl nx' ndx' nne' fun H4 s4 up2 => ⟨rfl, ?_⟩
    have : zs = [] := List.length_eq_zero_iff.mp c0
    rw [← this] at up2
    exact fin _ H4 s4 up2
  refine iteN (fun e => c0 (by have := V.int.inj e; omega)) ?_
  refine ⟨_, rfl, Lr, _, rfl, .inl (.inl (.inl hL3)), rfl, _, rfl, ?_⟩
  rw [List.length_map]
  by_cases c1 : zs.length = 1
  · obtain ⟨z0, ez⟩ : ∃ z0, zs = [z0] := by
      match zs, c1 with
      | [z0], _ => exact ⟨z0, rfl⟩
    refine iteY (by rw [c1]; rfl) ⟨_, rfl, _, rfl, _, rfl, _, rfl, Lr, _, 0, .str z0, rfl, rfl, .inl (.inl hL3), by rw [ez]; exact at0, ?_⟩
    intro x' dx' nx' ndx' nne'
    refine mkUx (zs := [z0]) ls3 sh3 gd hp3 aP (by rw [← ez]; exact hb) nx' ndx' nne' fun H4 s4 up2 => ⟨rfl, ?_⟩
    rw [← ez] at up2
    exact fin _ H4 s4 up2
  refine iteN (fun e => c1 (by have := V.int.inj e; omega)) ?_
  refine ⟨_, rfl, Lr, _, rfl, .inl (.inl (.inl hL3)), rfl, _, rfl, ?_⟩
  rw [List.length_map]
  by_cases c2 : zs.length = 2
  · obtain ⟨z0, z1, ez⟩ : ∃ z0 z1, zs = [z0, z1] := by
      match zs, c2 with
      | [z0, z1], _ => exact ⟨z0, z1, rfl⟩
    refine iteY (by rw [c2]; rfl) ⟨_, rfl, _, rfl, _, rfl, _, rfl, Lr, _, 0, .str z0, rfl, rfl, .inl (.inl hL3), by rw [ez]; exact at0, _, rfl, Lr, _, 1, .str z1, rfl, rfl, .inl (.inl hL3), by rw [ez]; rfl, ?_⟩
    intro x' dx' nx' ndx' nne'
    refine mkUx (zs := [z0, z1]) ls3 sh3 gd hp3 aP (by rw [← ez]; exact hb) nx' ndx' nne' fun H4 s4 up2 => ⟨rfl, ?_⟩
    rw [← ez] at up2
    exact fin _ H4 s4 up2
  refine iteN (fun e => c2 (by have := V.int.inj e; omega)) ?_
  refine ⟨_, rfl, _, rfl, _, rfl, N, sh, g, _, rfl, ls3, sh3, gd, .inl ⟨_, rfl, by omega, ?_⟩⟩
  rw [rd]
  intro u2 H4 s4 nu2 up2
  exact fin u2 H4 s4 up2
end
end Lx

namespace Rw
open PySem PySem.Spec PyProof.Rows L2 Ub Ur Ug Ue Up Uo Ve Va Vk
/-! ### a row's mark -/
theorem keys_dot {t : Tr} {p : Str} {u : Tr} (h : (p, u) ∈ paths t) : ∃ x, cs p = 46 :: x := by
  rcases List.mem_cons.mp h with e | h
  · have : p = "." := congrArg Prod.fst e
    rw [this]
    exact ⟨[], cs_dot⟩
  · exact fp_dot t _ h
theorem rowM_mark {t : Tr} {ps : Prs} {z : Str} {r : Str × Str × Str × Str} (e : rowM t ps z = some r) : (Txt.partition z " ").1 = r.1 ∧ r.1 ∈ marks := by
  unfold rowM at e
  split at e
  · cases e
  · split at e
    · cases e
    · rename_i hm
      have hm := Classical.not_not.mp hm
      cases ea : atM t (Txt.partition (headM z) " ").2.2 with
      | none => rw [ea] at e; cases e
      | some u =>
        rw [ea] at e
        dsimp only at e
        cases et : termM t ps (Txt.partition z " = ").2.2 with
        | none => rw [et] at e; cases e
        | some q =>
          rw [et] at e
          dsimp only at e
          split at e
          · cases e
            refine ⟨?_, hm⟩
            have hs : (Txt.partition (headM z) " ").2.1 = " " := by
              rcases PyProof.Rows.partition_whole (headM z) " " with ⟨h, _⟩ | ⟨i, h, _⟩
              · rw [h] at ea
                unfold atM at ea
                split at ea
                · cases ea
                · obtain ⟨x, hx⟩ := keys_dot (lookup_in ea)
                  exact absurd hx (by show ¬ (cs Str.empty = 46 :: x); intro h; cases h)
              · rw [h]
            obtain ⟨n32, _⟩ := marks_no _ hm
            have h1 := part_sum (headM z) " "
            rw [hs] at h1
            have h2 := part_sum z " = "
            have h3 : z = (Txt.partition (headM z) " ").1 ++ " " ++ ((Txt.partition (headM z) " ").2.2 ++ (Txt.partition z " = ").2.1 ++ (Txt.partition z " = ").2.2) := by
              conv => lhs; rw [← h2]
              show headM z ++ _ ++ _ = _
              rw [← h1]
              rw [h1]
              exact str_inj (by
                have := congrArg cs h1
                simp only [cs_app] at this ⊢
                rw [← this]
                simp only [List.append_assoc])
            rw [h3, part_blank n32, ← h3]
          · cases e
theorem bad_marks {t : Tr} {ps : Prs} : ∀ {os rs : List Str} {i : Nat}, badAt t ps rs (os.map some) i = none → ∀ m ∈ marksM os, m ∈ marks
  | [], _, _, _, m, hm => nomatch hm
  | o :: os, rs, i, e, m, hm => by
    have e : (if fitsV t ps rs (some o) = true then badAt t ps (rs ++ [o]) (os.map some) (i + 1) else some i) = none := e
    by_cases c : fitsV t ps rs (some o) = true
    · rw [if_pos c] at e
      unfold marksM at hm
      rw [List.filter_cons] at hm
      by_cases ho : o = "then"
      · rw [decide_eq_false (fun h => h ho), if_neg Bool.false_ne_true] at hm
        exact bad_marks e m hm
      · rw [decide_eq_true ho, if_pos rfl, List.map_cons] at hm
        rcases List.mem_cons.mp hm with rfl | hm
        · have c : fitsM t ps rs o = true := c
          unfold fitsM at c
          rw [if_neg ho, Bool.and_eq_true] at c
          obtain ⟨r, hr⟩ := Option.isSome_iff_exists.mp c.2
          obtain ⟨h1, h2⟩ := rowM_mark hr
          rw [h1]
          exact h2
        · exact bad_marks e m hm
    · rw [if_neg c] at e
      cases e
theorem secs_sh {zs : List Str} (h : ∀ z ∈ zs, Asc z) : SeqAt.shaped (secsD zs) = true := by
  have h1 : (secsD zs).canLay0 = true := canAll fun d hd => by
    obtain ⟨r, hr, rfl⟩ := List.mem_map.mp hd
    exact SeqAt.canLay_of_shaped (strsT_sh fun z hz => h z ((secs_mem hr).2 z hz))
  have h2 : (secsD zs).depth ≤ 64 := by
    have : PyData.depthAll ((secsM zs).map fun r => PyData.tuple (r.map PyData.str)) ≤ 1 := all_depth fun d hd => by
      obtain ⟨r, hr, rfl⟩ := List.mem_map.mp hd
      have : PyData.depthAll (r.map PyData.str) ≤ 0 := all_depth fun d hd => by
        obtain ⟨z, _, rfl⟩ := List.mem_map.mp hd
        exact Nat.le_refl _
      show PyData.depthAll (r.map PyData.str) + 1 ≤ 1
      omega
    show PyData.depthAll ((secsM zs).map fun r => PyData.tuple (r.map PyData.str)) + 1 ≤ 64
    omega
  unfold SeqAt.shaped
  rw [h1, decide_eq_true h2]
  rfl
/-- an update tells what it was made of -/
def sp_lright (K : PySem.W.Frag) : Sp := fun vs H Q _ => ∃ (N : List Addr) (u sh sh' : Addr) (g g' : Sg) (Z : Addr → Prop) (pv : V) (ps : Prs) (Lr : Addr) (zs : List Str), vs = [.ref u, .ref sh', pv, .ref Lr] ∧ UpAt N K H u sh g ps zs ∧ ShG Z (He.ga K "Shape") H sh' g' ∧ g'.tr.text = g.tr.text ∧ DtV [] H pv (parsD ps) ∧ H Lr = some (.lst (zs.map V.str)) ∧ LsN N H ∧ ∀ H', Same H H' → Q (.bl true) H'
end Rw

namespace Lx
open PySem PySem.Spec PyProof.Rows L2 Ub Ur Ug Ue Up Uo Ve Va Vk Rw
section
variable {P : Program} {w : World} {K : PySem.W.Frag} {mg : Str → Option Value} {base : Heap}
theorem sc_law_right : FnScope ["_law_made", "_law_shape", "_law_parameters_here", "_law_rows_here", "_law_slots", "_law_marks", "_law_word_here", "_law_below", "_law_row_here", "_law_mark"] ["_law_made", "_law_shape", "_law_parameters_here", "_law_rows_here"] (defScope s_law_right) := ⟨rfl, rfl, rfl, by decide +kernel, rfl, by decide +kernel, by decide +kernel⟩
theorem ok_law_right {f : Addr} {fd : FuncData} (F : FunD K "_law_right" "_law_right" (defArgs s_law_right) (defBody s_law_right) (defScope s_law_right) [] [] f fd) (T : Tx K mg) (k_Shape_eq : CalK P w K mg base CX0 1 (He.ga K "Shape") "__eq__" ["self", "other"] (sp_eqS K (He.ga K "Shape")))
    (m_Shape : CalM P w K mg base 16 "Shape" (He.ga K "Shape") ["self", "text"] (sp_shape K (He.ga K "Shape") (He.ga K "BadShape") 4)) (p_Shape_plains : CalP P w K mg base 5 (He.ga K "Shape") "plains" (sp_shP (He.ga K "Shape") fun t => .int (t.plains : Nat)))
    (p_Update_slots : CalP P w K mg base 7 (He.ga K "Update") "slots" (sp_slots K)) (p_Update_marks : CalP P w K mg base 2 (He.ga K "Update") "marks" (sp_marks K)) (p_Update_sections : CalP P w K mg base 2 (He.ga K "Update") "sections" (sp_secs K)) (k_Update_str : CalK P w K mg base CX0 1 (He.ga K "Update") "__str__" ["self"] (sp_ustr K)) (c_law_sections : Cal P w K mg base 1 "_law_sections" ["_law_rows_here"] sp_lsecs) :
    FnOk P w K mg base CX0 18 f fd ["_law_made", "_law_shape", "_law_parameters_here", "_law_rows_here"] (sp_lright K) := by
  refine F.ok sc_law_right (fun vs H Q E h => by obtain ⟨_, _, _, _, _, _, _, _, _, _, _, rfl, _⟩ := h; rfl) (fun cdv A outer s H vs Q E hr h => ?_)
  obtain ⟨N, u, sh, sh', g, g', Z, pvv, ps, Lr, zs, rfl, up, shg, etx, hp, hL, ls, q⟩ := h
  refine ⟨_, PSs.nox (pss_cons (ps_if (PW.pt (pw_or (pt_cmpR (op_neO k_Shape_eq T.nf T.nn (E := E0) (fun _ => pas0) (hr.mono (by omega)) (units4 hr)) (pe_fldK K (pv 0) rfl) (pv 1) (nomark _)) (pw_or1 (pt_cmpR (op_neDK K hr.units) (pe_fldK K (pv 0) rfl) (pv 2) (nomark _)))))
        (pss_one (ps_ret pe_bl))
        pss_nil)
      (pss_cons (ps_if (pt_cmpR (op_neDK K hr.units) (pe_fldK K (pv 0) rfl) (pe_callTy (call_tuple_ofK K) (by rfl) T.tuple (by decide +kernel) (pa_cons (pv 3) pa_nil)) (nomark _))
        (pss_one (ps_ret pe_bl))
        pss_nil)
      (pss_cons (ps_set (i := 4) sc_law_right.nd rfl (by first | exact Or.inl rfl | exact Or.inr rfl) (pe_callB (cr_sumK K rfl) (by rfl) T.sum (by decide +kernel) (pa_cons (pe_lc (own := [("_law_word_here", 6), ("_law_below", 7)]) (by rfl) sc_law_right.nd (pi_tupK K (pv 2)) (blkOk_by (N := ["_law_made", "_law_shape", "_law_parameters_here", "_law_rows_here", "_law_slots", "_law_marks", "_law_word_here", "_law_below", "_law_row_here", "_law_mark"]) (sc := (defScope s_law_right)) (by decide +kernel)) (fun _ _ _ _ _ => (pg_tupK K (n := 2) rfl (pgs_cons (pg_name (i := 6) sc_law_right.nd rfl (by first | exact Or.inl rfl | exact Or.inr rfl)) (pgs_cons (pg_name (i := 7) sc_law_right.nd rfl (by first | exact Or.inl rfl | exact Or.inr rfl)) pgs_nil)))) (fun _ _ _ _ _ => pts_nil) (fun _ _ _ _ _ => (pe_propP p_Shape_plains (hr.mono (by omega)) (pe_makeS m_Shape (fun _ => passE0) (hr.mono (by omega)) (by rfl) (pa_cons (pv 7) pa_nil))))) pa_nil)))
      (pss_cons (ps_if (PW.pt (pw_or (pt_cmpR op_ne (pe_propP p_Update_slots (hr.mono (by omega)) (pv 0)) (pv 4) (nomark _)) (pw_or1 (pt_val (pe_callB (call_isiK' K) (by rfl) T.isinstance (by decide +kernel) (pa_cons (pe_propP p_Update_slots (hr.mono (by omega)) (pv 0)) (pa_cons (pe_bltn (v := .ty "bool") (by rfl) T.bool (by decide +kernel) rfl) pa_nil)))))))
        (pss_one (ps_ret pe_bl))
        pss_nil)
      (pss_cons (ps_set (i := 5) sc_law_right.nd rfl (by first | exact Or.inl rfl | exact Or.inr rfl) (pe_callTy (call_tuple_ofK K) (by rfl) T.tuple (by decide +kernel) (pa_cons (pe_lc (own := [("_law_row_here", 8)]) (by rfl) sc_law_right.nd (pi_listK K (pv 3)) (blkOk_by (N := ["_law_made", "_law_shape", "_law_parameters_here", "_law_rows_here", "_law_slots", "_law_marks", "_law_word_here", "_law_below", "_law_row_here", "_law_mark"]) (sc := (defScope s_law_right)) (by decide +kernel)) (fun _ _ _ _ _ => (pg_name (i := 8) sc_law_right.nd rfl (by first | exact Or.inl rfl | exact Or.inr rfl))) (fun _ _ _ _ _ => pts_one (pt_cmpR op_ne (pv 8) pe_str (nomark _))) (fun _ _ _ _ _ => (pe_ix (ix_tupK K) (pe_partition (pv 8) pe_str) pe_int (fun _ _ => rfl)))) pa_nil)))
      (pss_cons (ps_if (PW.pt (pw_or (pt_cmpR (op_neDK K hr.units) (pe_propP p_Update_marks (hr.mono (by omega)) (pv 0)) (pv 5) (nomark _)) (pw_or1 (pt_not (pt_val (pe_callB (cr_allK K rfl) (by rfl) T.all (by decide +kernel) (pa_cons (pe_lc (own := [("_law_mark", 9)]) (by rfl) sc_law_right.nd (pi_tupK K (pe_propP p_Update_marks (hr.mono (by omega)) (pv 0))) (blkOk_by (N := ["_law_made", "_law_shape", "_law_parameters_here", "_law_rows_here", "_law_slots", "_law_marks", "_law_word_here", "_law_below", "_law_row_here", "_law_mark"]) (sc := (defScope s_law_right)) (by decide +kernel)) (fun _ _ _ _ _ => (pg_name (i := 9) sc_law_right.nd rfl (by first | exact Or.inl rfl | exact Or.inr rfl))) (fun _ _ _ _ _ => pts_nil) (fun _ _ _ _ _ => (pe_cmpR (op_in_seqK K) (pv 9) (pe_globR (by rfl) T.g_MARKS_updates) (by rfl)))) pa_nil)))))))
        (pss_one (ps_ret pe_bl))
        pss_nil)
      (pss_one (ps_ret (pe_and (pe_cmpR (op_eqDK K hr.units) (pe_propP p_Update_sections (hr.mono (by omega)) (pv 0)) (pe_cal c_law_sections (hr.mono (by omega)) (by rfl) (pa_cons (pv 3) pa_nil)) (nomark _)) (pe_one (pe_cmpR op_eq (pe_callTy (call_strO k_Update_str (E := E0) (fun _ => pas0) (hr.mono (by omega)) (units4 hr)) (by rfl) T.str (by decide +kernel) (pa_cons (pv 0) pa_nil)) (pe_join pe_str (pv 3)) (nomark _)))))))))))), ?_⟩
  have few := up.few
  have ln := few.len
  have al := up.al
  have aP := up.areP
  have hA := pars_asc aP
  have lps := up.l3
  have psh : SeqAt.shaped (parsD ps) = true := pars_sh fun m hm => ⟨(hA m hm).1.1, (hA m hm).2.1⟩
  have zsh : SeqAt.shaped (.tuple (zs.map PyData.str)) = true := strsT_sh fun z hz => (al z hz).1
  obtain ⟨dx, pv0, rs, ks, ws, h1, h2, h3, h4, h5, _, _, h8, h9, _⟩ := id up
  obtain ⟨ds, tv, na, fa, sa, f1, _⟩ := id h8.1
  obtain ⟨ds', tv', na', fa', sa', f1', _⟩ := id shg.1
  refine ⟨_, rfl, u, _, dx, _, _, rfl, h1, T.k_Update, T.n_Update_shape, rfl, _, rfl, sh, ds, _, rfl, f1, .ins f1', sh, g, _, _, rfl, h8, .inl ⟨sh', g', _, rfl, shg, _, rfl, _, rfl, ?_⟩⟩
  refine iteNN etx.symm ?_
  refine ⟨_, rfl, u, _, dx, _, _, rfl, h1, T.k_Update, T.n_Update_parameters, rfl, _, rfl, parsD ps, parsD ps, h3.dp, hp.dp, psh, psh, ?_⟩
  rw [pars_eqv, decide_eq_true rfl]
  refine ⟨_, rfl, iteF ?_⟩
  -- rows
  refine ⟨_, rfl, u, _, dx, _, _, rfl, h1, T.k_Update, T.n_Update_rows, rfl, _, rfl, Lr, _, rfl, .inl ⟨.inl (.inl hL), fun p1 np1 => ?_⟩⟩
  have s1 := same_upd (o := .tup (zs.map V.str)) np1
  refine ⟨.tuple (zs.map PyData.str), .tuple (zs.map PyData.str), .tup (.inl (.inl (s1 _ _ h4))) (strs_dt (N := []) zs).dp, .tup (.inl (.inl upd_same)) (strs_dt (N := []) zs).dp, zsh, zsh, ?_⟩
  rw [strsT_eqv, decide_eq_true rfl]
  refine ⟨_, rfl, iteF ?_⟩
  generalize upd H p1 (.tup (zs.map V.str)) = H1 at *
  -- slots
  obtain ⟨p, qs, rfl, ep, lqs, hqs⟩ := pars_at (hp.same s1)
  refine ⟨_, rfl, p, rfl, ⟨_, .inl (.inl ep)⟩, fun D hD => ?_⟩
  refine lcM (walk_tup (K := K) (a := p) (xs := qs.map V.ref)) ps (by rw [List.length_map, lqs]) (fun m : Str × Str => some (.int (plM m.2 : Nat))) (fun H s => Same.tup s (.inl (.inl ep))) (sz5 (by rw [List.length_map]; omega)) hD (fun i v m H' hx hm s' => ?_) (fun H2 s2 e4 => ?_)
  · obtain ⟨q0, g1, g2⟩ := hqs i m hm
    obtain rfl : v = .ref q0 := by
      rw [List.getElem?_map, g1] at hx
      exact (Option.some.inj hx).symm
    obtain ⟨t, hsh⟩ := ((areP_small aP).2 m (List.mem_of_getElem? hm)).2
    obtain ⟨hg, hzt⟩ := shapeOf_out hsh
    intro Q1 Q0 b1 b0
    refine ⟨q0, _, rfl, .inl (.inl (s' _ _ g2)), rfl, _, _, rfl, _, _, rfl, rfl, rfl, ?_⟩
    refine ⟨_, rfl, fun x' dx' nx ndx nne => ?_⟩
    have sA : Same H' (upd (upd H' dx' (.own x')) x' (.ins (He.ga K "Shape") dx' [])) := (same_upd ndx).trans (same_upd (by rw [upd_ne nne.symm]; exact nx))
    refine ⟨x', .str m.2, dx', rfl, upd_same, .inl ⟨t, hg, by have := (good_has hg).1; omega, by rw [hzt], fun gg H3 egg k3 sg => ⟨rfl, ?_⟩⟩⟩
    have sB : Same H' H3 := fun b o e => k3 b o (sA b o e) (ne_of_none e nx)
    obtain ⟨dy, tvy, nay, fay, say, fy, _⟩ := id sg.1
    refine ⟨x', dy, _, rfl, fy, x', gg, _, rfl, sg, by rw [egg]; exact hg, fun H4 s4 => b1 _ _ ?_ (sB.trans s4)⟩
    have : plM m.2 = gg.tr.plains := by
      unfold plM
      rw [hsh, egg]
    rw [this]
  have ed : (ps.filterMap fun m : Str × Str => some (V.int (plM m.2 : Nat))) = ((ps.map fun m => ((plM m.2 : Nat) : Int))).map V.int := by
    rw [List.filterMap_eq_map', List.map_map]
    rfl
  rw [ed] at e4
  refine ⟨D, _, rfl, .inl (.inl e4), ?_⟩
  rw [slots_sum]
  dsimp only [gName]
  have s02 := s1.trans s2
  have up2 := up.kn ls (Kn.of s02)
  have h12 := s02 _ _ h1
  refine ⟨_, rfl, u, dx, _, rfl, h12, N, u, sh, g, ps, zs, rfl, up2, fun H3 s3 => ?_⟩
  refine ⟨_, rfl, rfl, _, rfl, iteNN rfl ?_⟩
  have s03 := s02.trans s3
  refine ⟨_, rfl, u, dx, _, rfl, s03 _ _ h1, N, u, sh, g, ps, zs, rfl, up.kn ls (Kn.of s03), fun H4 s4 => ?_⟩
  refine ⟨_, _, _, _, false, rfl, .ty "bool", .base (.int _), kit_ty (show kitB "int" "bool" = some false by decide +kernel), _, rfl, iteF ?_⟩
  have s04 := s03.trans s4
  have hL4 := s04 _ _ hL
  -- marks
  refine ⟨_, rfl, Lr, rfl, ⟨_, .inl (.inl hL4)⟩, fun D5 hD5 => ?_⟩
  refine lcM (walk_list (K := K) (a := Lr) (xs := zs.map V.str)) zs (by rw [List.length_map]) (fun z : Str => if z = ("then" : Str) then none else some (.str (Txt.partition z " ").1)) (fun H s => s.seq (.inl (.inl hL4))) (by rw [List.length_map]; exact sz5 (by omega)) hD5 (fun i x m H' hx hm s' => ?_) (fun H5 s5 e5 => ?_)
  · obtain rfl : x = .str m := by
      rw [List.getElem?_map, hm] at hx
      exact (Option.some.inj hx).symm
    intro Q1 Q0 a1 a0
    have lm := (al m (List.mem_of_getElem? hm)).2
    refine ⟨rfl, _, rfl, rfl, _, rfl, ?_⟩
    by_cases e : m = "then"
    · exact iteNN (by rw [e]) (a0 _ (if_pos e) (Same.refl _))
    · refine iteNY (fun z => e (V.str.inj z)) ?_
      exact ⟨_, rfl, ⟨_, rfl⟩, m, " ", rfl, rfl, by decide +kernel, sz5 (by omega), fun p np => ⟨p, _, 0, _, rfl, rfl, .inl (.inl upd_same), at0, a1 _ _ (if_neg e) (same_upd np)⟩⟩
  rw [marks_fm] at e5
  have mal : ∀ m ∈ marksM zs, m ∈ marks := bad_marks up.bad
  have lml : (marksM zs).length ≤ zs.length := by
    unfold marksM
    rw [List.length_map]
    exact List.length_filter_le _ _
  have msh : SeqAt.shaped (.tuple ((marksM zs).map PyData.str)) = true := strsT_sh fun z hz => (marks_al z (mal z hz)).1
  refine ⟨D5, _, rfl, .inl ⟨.inl (.inl e5), fun p6 np6 => ?_⟩⟩
  have s6 := same_upd (o := .tup ((marksM zs).map V.str)) np6
  have e6 : (upd H5 p6 (.tup ((marksM zs).map V.str))) p6 = some (.tup ((marksM zs).map V.str)) := upd_same
  have s06 := (s04.trans s5).trans s6
  generalize upd H5 p6 (.tup ((marksM zs).map V.str)) = H6 at *
  dsimp only [gName]
  refine ⟨_, rfl, u, dx, _, rfl, s06 _ _ h1, N, u, sh, g, ps, zs, rfl, up.kn ls (Kn.of s06), fun p7 H7 s7 e7 => ?_⟩
  refine ⟨_, rfl, .tuple ((marksM zs).map PyData.str), .tuple ((marksM zs).map PyData.str), .tup (.inl (.inl e7)) (strs_dt (N := []) _).dp, .tup (.inl (.inl (s7 _ _ e6))) (strs_dt (N := []) _).dp, msh, msh, ?_⟩
  rw [strsT_eqv, decide_eq_true rfl]
  refine ⟨_, rfl, iteF ?_⟩
  have s07 := s06.trans s7
  refine ⟨_, rfl, u, dx, _, rfl, s07 _ _ h1, N, u, sh, g, ps, zs, rfl, up.kn ls (Kn.of s07), fun p8 H8 s8 e8 => ?_⟩
  refine ⟨p8, rfl, ⟨_, .inl (.inl e8)⟩, fun D9 hD9 => ?_⟩
  refine lcM (walk_tup (K := K) (a := p8) (xs := (marksM zs).map V.str)) (marksM zs) (by rw [List.length_map]) (fun z : Str => some (.bl true)) (fun H s => Same.tup s (.inl (.inl e8))) (by rw [List.length_map]; exact sz5 (by omega)) hD9 (fun i x m H' hx hm s' => ?_) (fun H9 s9 e9 => ?_)
  · obtain rfl : x = .str m := by
      rw [List.getElem?_map, hm] at hx
      exact (Option.some.inj hx).symm
    intro Q1 Q0 a1 a0
    refine ⟨rfl, _, rfl, _, marks.map V.str, rfl, .inr (T.t_MARKS_updates _), rfl, rfl, ?_⟩
    have : inV (.str m) (marks.map V.str) = true := by rw [inV_str]; exact decide_eq_true (mal m (List.mem_of_getElem? hm))
    rw [this]
    exact a1 _ _ rfl (Same.refl _)
  have ebs : ((marksM zs).filterMap fun z : Str => some (V.bl true)) = ((marksM zs).map fun _ => true).map V.bl := by
    rw [List.filterMap_eq_map', List.map_map]
    rfl
  have eall : ((marksM zs).map fun _ => true).all id = true := by simp
  rw [ebs] at e9
  refine ⟨D9, _, rfl, .inl (.inl e9), _, rfl, ?_⟩
  rw [eall]
  refine iteF ?_
  have s09 := (s07.trans s8).trans s9
  -- sections, text
  refine ⟨_, rfl, u, dx, _, rfl, s09 _ _ h1, N, u, sh, g, ps, zs, rfl, up.kn ls (Kn.of s09), fun v10 H10 s10 d10 => ?_⟩
  have s010 := s09.trans s10
  refine ⟨_, rfl, Lr, zs, rfl, s010 _ _ hL, by omega, fun v11 H11 s11 d11 => ?_⟩
  have ssh : SeqAt.shaped (secsD zs) = true := secs_sh fun z hz => (al z hz).1
  refine ⟨secsD zs, secsD zs, (d10.same s11).dp, d11.dp, ssh, ssh, ?_⟩
  rw [SeqAt.eqv_refl _ (SeqAt.canLay_of_shaped ssh)]
  refine ⟨_, rfl, iteT ?_⟩
  have s011 := s010.trans s11
  refine ⟨_, rfl, u, dx, _, rfl, s011 _ _ h1, N, u, sh, g, ps, zs, rfl, up.kn ls (Kn.of s011), _, rfl, ?_⟩
  refine ⟨⟨_, rfl⟩, _, rfl, "\n", Lr, zs, rfl, rfl, .inl (.inl (.inl (s011 _ _ hL))), ?_, rfl, ?_⟩
  · have e1 : ("\n" : Str).length = 1 := by decide +kernel
    rw [e1]
    have := al_sum al
    omega
  rw [TL.join_eq, decide_eq_true rfl]
  exact q _ s011
end
end Lx

namespace Lx
open PySem PySem.Spec PyProof.Rows L2 Ub
section
variable {P : Program} {w : World} {K : PySem.W.Frag} {mg : Str → Option Value} {base : Heap}
theorem sc_law_records : FnScope ["_law_tree_here", "_law_many", "_law_pair"] ["_law_tree_here"] (defScope s_law_records) := ⟨rfl, rfl, rfl, by decide +kernel, rfl, by decide +kernel, by decide +kernel⟩
theorem ok_law_records {f : Addr} {fd : FuncData} (F : FunD K "_law_records" "_law_records" (defArgs s_law_records) (defBody s_law_records) (defScope s_law_records) [] [] f fd) (T : Tx K mg) (hm : mg "_law_records" = some (.ref f)) (hb : Binds K fd ["_law_tree_here"] []) : ∀ d, FnOk P w K mg base CX0 d f fd ["_law_tree_here"] (sp_tree d fun t => .int (t.recs : Nat))
  | 0 => no_tree
  | d + 1 => by
    have c_law_records : Cal P w K mg base d "_law_records" ["_law_tree_here"] (sp_tree d fun t => .int (t.recs : Nat)) := ⟨f, fd, ok_law_records F T hm hb d, hm, F.kp, hb⟩
    refine F.ok sc_law_records (fun vs H Q E h => h.len1) (fun cdv A outer s H vs Q E hr h => ?_)
    obtain ⟨t, v, rfl, ht, hd, hsz, hsh, q⟩ := h
    refine ⟨_, PSs.nox (pss_cons (ps_setLc (i := 1) (own := [("_law_pair", 2)]) (by rfl) sc_law_records.nd rfl rfl (sw_true rfl rfl rfl (by decide +kernel)) (pi_tupK K (pv 0)) (blkOk_by (N := ["_law_tree_here", "_law_many", "_law_pair"]) (sc := (defScope s_law_records)) (by decide +kernel)) (fun _ _ _ _ _ => (pg_name (i := 2) sc_law_records.nd rfl (by first | exact Or.inl rfl | exact Or.inr rfl))) (fun _ _ _ _ _ => pts_nil) (fun _ _ _ _ _ => (pe_cal c_law_records (hr.mono (by omega)) (by rfl) (pa_cons (pe_ix (ix_tupK K) (pv 2) pe_int (fun _ _ => rfl)) pa_nil))))
      (pss_one (ps_ret (pe_ifExp (pt_cmpR (op_eq_nilK K hr.units0) (pv 0) (pe_tup pa_nil) (nomark _)) pe_int (pe_op op_add pe_int (pe_callB (cr_sumK K rfl) (by rfl) T.sum (by decide +kernel) (pa_cons (pv 1) pa_nil))))))), ?_⟩
    obtain ⟨a, ps, rfl, ha, hf⟩ := ht
    have hl := hf.len
    have hfl := t.fields_len
    refine ⟨_, rfl, a, rfl, ⟨_, .inl (.inl ha)⟩, fun D hD => ?_⟩
    refine lcM (walk_tup (xs := ps)) t.fields hl.symm (fun m => some (.int (m.2.recs : Nat))) (fun H s => Same.tup s (.inl (.inl ha))) (sz4 (by omega)) hD (fun i x m H' hx hm' s' => ?_) (fun H1 s2 d1 => ?_)
    · obtain ⟨p, q', g1, g2, g3⟩ := hf.get hm'
      rw [g1] at hx
      cases hx
      intro Q1 Q0 h1 h0
      have dl := Tr.depth_lt (List.mem_of_getElem? hm')
      have sl := Tr.size_mem (List.mem_of_getElem? hm')
      exact ⟨rfl, _, rfl, p, _, 1, q', rfl, rfl, .inl (.inl (s' _ _ g2)), rfl, m.2, q', rfl, g3.same s', by omega, by omega, (Tr.short_mem hsh (List.mem_of_getElem? hm')).2, fun H2 s4 => h1 _ _ rfl s4⟩
    have el : (t.fields.filterMap fun m => some (V.int (m.2.recs : Nat))) = (t.fields.map fun m => ((m.2.recs : Nat) : Int)).map V.int := by
      rw [List.filterMap_eq_map', List.map_map]
      rfl
    rw [el] at d1
    refine ⟨_, rfl, Nat.zero_le _, fun e ne => ?_⟩
    have s3 := same_upd (o := .tup []) ne
    refine ⟨a, e, ps, rfl, rfl, .inl (.inl (s3 _ _ (s2 _ _ ha))), .inl (.inl upd_same), _, rfl, ?_⟩
    refine iteE hf.nil_iff (fun e0 => ?_) (fun e0 => ?_)
    · have := q _ (s2.trans s3)
      rw [Tr.nil_of e0] at this
      exact this
    refine ⟨_, rfl, D, _, rfl, .inl (.inl (s3 _ _ d1)), _, _, rfl, rfl, ?_⟩
    have qq : Q (.int ((t.recs : Nat) : Int)) _ := q _ (s2.trans s3)
    rw [← recs_int e0] at qq
    exact qq
theorem sc_law_plains : FnScope ["_law_tree_here", "_law_many", "_law_pair"] ["_law_tree_here"] (defScope s_law_plains) := ⟨rfl, rfl, rfl, by decide +kernel, rfl, by decide +kernel, by decide +kernel⟩
theorem ok_law_plains {f : Addr} {fd : FuncData} (F : FunD K "_law_plains" "_law_plains" (defArgs s_law_plains) (defBody s_law_plains) (defScope s_law_plains) [] [] f fd) (T : Tx K mg) (hm : mg "_law_plains" = some (.ref f)) (hb : Binds K fd ["_law_tree_here"] []) : ∀ d, FnOk P w K mg base CX0 d f fd ["_law_tree_here"] (sp_tree d fun t => .int (t.plains : Nat))
  | 0 => no_tree
  | d + 1 => by
    have c_law_plains : Cal P w K mg base d "_law_plains" ["_law_tree_here"] (sp_tree d fun t => .int (t.plains : Nat)) := ⟨f, fd, ok_law_plains F T hm hb d, hm, F.kp, hb⟩
    refine F.ok sc_law_plains (fun vs H Q E h => h.len1) (fun cdv A outer s H vs Q E hr h => ?_)
    obtain ⟨t, v, rfl, ht, hd, hsz, hsh, q⟩ := h
    refine ⟨_, PSs.nox (pss_cons (ps_setLc (i := 1) (own := [("_law_pair", 2)]) (by rfl) sc_law_plains.nd rfl rfl (sw_true rfl rfl rfl (by decide +kernel)) (pi_tupK K (pv 0)) (blkOk_by (N := ["_law_tree_here", "_law_many", "_law_pair"]) (sc := (defScope s_law_plains)) (by decide +kernel)) (fun _ _ _ _ _ => (pg_name (i := 2) sc_law_plains.nd rfl (by first | exact Or.inl rfl | exact Or.inr rfl))) (fun _ _ _ _ _ => pts_nil) (fun _ _ _ _ _ => (pe_cal c_law_plains (hr.mono (by omega)) (by rfl) (pa_cons (pe_ix (ix_tupK K) (pv 2) pe_int (fun _ _ => rfl)) pa_nil))))
      (pss_one (ps_ret (pe_ifExp (pt_cmpR (op_eq_nilK K hr.units0) (pv 0) (pe_tup pa_nil) (nomark _)) pe_int (pe_callB (cr_sumK K rfl) (by rfl) T.sum (by decide +kernel) (pa_cons (pv 1) pa_nil)))))), ?_⟩
    obtain ⟨a, ps, rfl, ha, hf⟩ := ht
    have hl := hf.len
    have hfl := t.fields_len
    refine ⟨_, rfl, a, rfl, ⟨_, .inl (.inl ha)⟩, fun D hD => ?_⟩
    refine lcM (walk_tup (xs := ps)) t.fields hl.symm (fun m => some (.int (m.2.plains : Nat))) (fun H s => Same.tup s (.inl (.inl ha))) (sz4 (by omega)) hD (fun i x m H' hx hm' s' => ?_) (fun H1 s2 d1 => ?_)
    · obtain ⟨p, q', g1, g2, g3⟩ := hf.get hm'
      rw [g1] at hx
      cases hx
      intro Q1 Q0 h1 h0
      have dl := Tr.depth_lt (List.mem_of_getElem? hm')
      have sl := Tr.size_mem (List.mem_of_getElem? hm')
      exact ⟨rfl, _, rfl, p, _, 1, q', rfl, rfl, .inl (.inl (s' _ _ g2)), rfl, m.2, q', rfl, g3.same s', by omega, by omega, (Tr.short_mem hsh (List.mem_of_getElem? hm')).2, fun H2 s4 => h1 _ _ rfl s4⟩
    have el : (t.fields.filterMap fun m => some (V.int (m.2.plains : Nat))) = (t.fields.map fun m => ((m.2.plains : Nat) : Int)).map V.int := by
      rw [List.filterMap_eq_map', List.map_map]
      rfl
    rw [el] at d1
    refine ⟨_, rfl, Nat.zero_le _, fun e ne => ?_⟩
    have s3 := same_upd (o := .tup []) ne
    refine ⟨a, e, ps, rfl, rfl, .inl (.inl (s3 _ _ (s2 _ _ ha))), .inl (.inl upd_same), _, rfl, ?_⟩
    refine iteE hf.nil_iff (fun e0 => ?_) (fun e0 => ?_)
    · have := q _ (s2.trans s3)
      rw [Tr.nil_of e0] at this
      exact this
    refine ⟨_, rfl, D, _, rfl, .inl (.inl (s3 _ _ d1)), ?_⟩
    have qq : Q (.int ((t.plains : Nat) : Int)) _ := q _ (s2.trans s3)
    rw [← plains_int e0] at qq
    exact qq
theorem sc_law_depth : FnScope ["_law_tree_here", "_law_many", "_law_pair"] ["_law_tree_here"] (defScope s_law_depth) := ⟨rfl, rfl, rfl, by decide +kernel, rfl, by decide +kernel, by decide +kernel⟩
theorem ok_law_depth {f : Addr} {fd : FuncData} (F : FunD K "_law_depth" "_law_depth" (defArgs s_law_depth) (defBody s_law_depth) (defScope s_law_depth) [] [] f fd) (T : Tx K mg) (hm : mg "_law_depth" = some (.ref f)) (hb : Binds K fd ["_law_tree_here"] []) : ∀ d, FnOk P w K mg base CX0 d f fd ["_law_tree_here"] (sp_tree d fun t => .int (t.depth : Nat))
  | 0 => no_tree
  | d + 1 => by
    have c_law_depth : Cal P w K mg base d "_law_depth" ["_law_tree_here"] (sp_tree d fun t => .int (t.depth : Nat)) := ⟨f, fd, ok_law_depth F T hm hb d, hm, F.kp, hb⟩
    refine F.ok sc_law_depth (fun vs H Q E h => h.len1) (fun cdv A outer s H vs Q E hr h => ?_)
    obtain ⟨t, v, rfl, ht, hd, hsz, hsh, q⟩ := h
    refine ⟨_, PSs.nox (pss_cons (ps_setLc (i := 1) (own := [("_law_pair", 2)]) (by rfl) sc_law_depth.nd rfl rfl (sw_true rfl rfl rfl (by decide +kernel)) (pi_tupK K (pv 0)) (blkOk_by (N := ["_law_tree_here", "_law_many", "_law_pair"]) (sc := (defScope s_law_depth)) (by decide +kernel)) (fun _ _ _ _ _ => (pg_name (i := 2) sc_law_depth.nd rfl (by first | exact Or.inl rfl | exact Or.inr rfl))) (fun _ _ _ _ _ => pts_nil) (fun _ _ _ _ _ => (pe_cal c_law_depth (hr.mono (by omega)) (by rfl) (pa_cons (pe_ix (ix_tupK K) (pv 2) pe_int (fun _ _ => rfl)) pa_nil))))
      (pss_one (ps_ret (pe_ifExp (pt_cmpR (op_eq_nilK K hr.units0) (pv 0) (pe_tup pa_nil) (nomark _)) pe_int (pe_op op_add pe_int (pe_callB (cr_maxK K rfl) (by rfl) T.max (by decide +kernel) (pa_cons (pv 1) pa_nil))))))), ?_⟩
    obtain ⟨a, ps, rfl, ha, hf⟩ := ht
    have hl := hf.len
    have hfl := t.fields_len
    refine ⟨_, rfl, a, rfl, ⟨_, .inl (.inl ha)⟩, fun D hD => ?_⟩
    refine lcM (walk_tup (xs := ps)) t.fields hl.symm (fun m => some (.int (m.2.depth : Nat))) (fun H s => Same.tup s (.inl (.inl ha))) (sz4 (by omega)) hD (fun i x m H' hx hm' s' => ?_) (fun H1 s2 d1 => ?_)
    · obtain ⟨p, q', g1, g2, g3⟩ := hf.get hm'
      rw [g1] at hx
      cases hx
      intro Q1 Q0 h1 h0
      have dl := Tr.depth_lt (List.mem_of_getElem? hm')
      have sl := Tr.size_mem (List.mem_of_getElem? hm')
      exact ⟨rfl, _, rfl, p, _, 1, q', rfl, rfl, .inl (.inl (s' _ _ g2)), rfl, m.2, q', rfl, g3.same s', by omega, by omega, (Tr.short_mem hsh (List.mem_of_getElem? hm')).2, fun H2 s4 => h1 _ _ rfl s4⟩
    have el : (t.fields.filterMap fun m => some (V.int (m.2.depth : Nat))) = (t.fields.map fun m => ((m.2.depth : Nat) : Int)).map V.int := by
      rw [List.filterMap_eq_map', List.map_map]
      rfl
    rw [el] at d1
    refine ⟨_, rfl, Nat.zero_le _, fun e ne => ?_⟩
    have s3 := same_upd (o := .tup []) ne
    refine ⟨a, e, ps, rfl, rfl, .inl (.inl (s3 _ _ (s2 _ _ ha))), .inl (.inl upd_same), _, rfl, ?_⟩
    refine iteE hf.nil_iff (fun e0 => ?_) (fun e0 => ?_)
    · have := q _ (s2.trans s3)
      rw [Tr.nil_of e0] at this
      exact this
    have nl : 0 < t.fields.length := by
      cases t with
      | nil => cases e0
      | cons _ _ _ => exact Nat.succ_pos _
    refine ⟨_, rfl, D, _, rfl, .inl (.inl (s3 _ _ d1)), (by rw [List.length_map]; exact nl), fun m h1 h2 => ⟨_, _, rfl, rfl, ?_⟩⟩
    have qq : Q (.int ((t.depth : Nat) : Int)) _ := q _ (s2.trans s3)
    rw [← depth_int e0 h1 h2] at qq
    exact qq
theorem sc_law_text : FnScope ["_law_tree_here", "_law_fields", "_law_word_here", "_law_field"] ["_law_tree_here"] (defScope s_law_text) := ⟨rfl, rfl, rfl, by decide +kernel, rfl, by decide +kernel, by decide +kernel⟩
theorem ok_law_text {f : Addr} {fd : FuncData} (F : FunD K "_law_text" "_law_text" (defArgs s_law_text) (defBody s_law_text) (defScope s_law_text) [] [] f fd) (T : Tx K mg) (hm : mg "_law_text" = some (.ref f)) (hb : Binds K fd ["_law_tree_here"] []) : ∀ d, FnOk P w K mg base CX0 d f fd ["_law_tree_here"] (sp_tree d fun t => .str t.text)
  | 0 => no_tree
  | d + 1 => by
    have c_law_text : Cal P w K mg base d "_law_text" ["_law_tree_here"] (sp_tree d fun t => .str t.text) := ⟨f, fd, ok_law_text F T hm hb d, hm, F.kp, hb⟩
    refine F.ok sc_law_text (fun vs H Q E h => h.len1) (fun cdv A outer s H vs Q E hr h => ?_)
    obtain ⟨t, v, rfl, ht, hd, hsz, hsh, q⟩ := h
    refine ⟨_, PSs.nox (pss_cons (ps_set (i := 1) sc_law_text.nd rfl (by first | exact Or.inl rfl | exact Or.inr rfl) (pe_join pe_str (pe_lc (own := [("_law_word_here", 2), ("_law_field", 3)]) (by rfl) sc_law_text.nd (pi_tupK K (pv 0)) (blkOk_by (N := ["_law_tree_here", "_law_fields", "_law_word_here", "_law_field"]) (sc := (defScope s_law_text)) (by decide +kernel)) (fun _ _ _ _ _ => (pg_tupK K (n := 2) rfl (pgs_cons (pg_name (i := 2) sc_law_text.nd rfl (by first | exact Or.inl rfl | exact Or.inr rfl)) (pgs_cons (pg_name (i := 3) sc_law_text.nd rfl (by first | exact Or.inl rfl | exact Or.inr rfl)) pgs_nil)))) (fun _ _ _ _ _ => pts_nil) (fun _ _ _ _ _ => (pe_op op_add_str (pe_op op_add_str (pv 2) pe_str) (pe_cal c_law_text (hr.mono (by omega)) (by rfl) (pa_cons (pv 3) pa_nil)))))))
      (pss_one (ps_ret (pe_ifExp (pt_cmpR (op_eq_nilK K hr.units0) (pv 0) (pe_tup pa_nil) (nomark _)) pe_str (pe_op op_add_str (pe_op op_add_str pe_str (pv 1)) pe_str))))), ?_⟩
    obtain ⟨a, ps, rfl, ha, hf⟩ := ht
    have hl := hf.len
    have hfl := t.fields_len
    refine ⟨⟨_, rfl⟩, _, rfl, a, rfl, ⟨_, .inl (.inl ha)⟩, fun D hD => ?_⟩
    refine lcM (walk_tup (xs := ps)) t.fields hl.symm (fun m => some (.str (m.1 ++ ": " ++ m.2.text))) (fun H s => Same.tup s (.inl (.inl ha))) (sz4 (by omega)) hD (fun i x m H' hx hm' s' => ?_) (fun H1 s2 d1 => ?_)
    · obtain ⟨p, q', g1, g2, g3⟩ := hf.get hm'
      rw [g1] at hx
      cases hx
      intro Q1 Q0 h1 h0
      have dl := Tr.depth_lt (List.mem_of_getElem? hm')
      have sl := Tr.size_mem (List.mem_of_getElem? hm')
      obtain ⟨w8, sh⟩ := Tr.short_mem hsh (List.mem_of_getElem? hm')
      have tl := (Tr.join_le sh).2
      have e2 : ((": " : Str)).length = 2 := by decide +kernel
      have l2 : (m.1 ++ ": ").length ≤ 10 := by rw [len_app, e2]; omega
      exact ⟨p, _, rfl, .inl (.inl (s' _ _ g2)), rfl, _, _, rfl, _, _, rfl, rfl, rfl, _, rfl, m.1, ": ", rfl, rfl, sz5 (by omega), _, rfl, m.2, _, rfl, g3.same s', by omega, by omega, sh, fun H2 s4 => ⟨_, _, rfl, rfl, sz5 (by omega), h1 _ _ rfl s4⟩⟩
    have el : (t.fields.filterMap fun m => some (V.str (m.1 ++ ": " ++ m.2.text))) = t.pieces.map V.str := by
      rw [List.filterMap_eq_map', Tr.pieces_eq, List.map_map]
      rfl
    rw [el] at d1
    have jl := (Tr.join_le hsh).1
    have e3 : ((", " : Str)).length = 2 := by decide +kernel
    refine ⟨", ", D, t.pieces, rfl, rfl, .inl (.inl (.inl d1)), ?_, ?_⟩
    · rw [e3]
      omega
    rw [TL.join_eq]
    have tl := (Tr.join_le hsh).2
    refine ⟨_, rfl, Nat.zero_le _, fun e ne => ?_⟩
    have s3 := same_upd (o := .tup []) ne
    refine ⟨a, e, ps, rfl, rfl, .inl (.inl (s3 _ _ (s2 _ _ ha))), .inl (.inl upd_same), _, rfl, ?_⟩
    refine iteE hf.nil_iff (fun e0 => ?_) (fun e0 => ?_)
    · have := q _ (s2.trans s3)
      rw [Tr.nil_of e0] at this
      exact this
    have et := text_eq e0
    rw [et, len_app, len_app] at tl
    have e4 : (("{" : Str)).length = 1 := by decide +kernel
    have e5 : (("}" : Str)).length = 1 := by decide +kernel
    refine ⟨_, rfl, "{", _, rfl, rfl, sz5 (by omega), _, _, rfl, rfl, sz5 (by rw [len_app]; omega), ?_⟩
    have qq : Q (.str t.text) _ := q _ (s2.trans s3)
    rw [et] at qq
    exact qq
end
end Lx

namespace Lx
open PySem PySem.Spec PyProof.Rows L2 Ub Ur Ug Ue Up Uo Ve Va Vk Rw
section
variable {P : Program} {w : World} {K : PySem.W.Frag} {mg : Str → Option Value} {base : Heap}
theorem sc_law_row : FnScope ["_law_state", "_law_paths_here", "_law_parameters_here", "_law_path", "_law_tree_here", "_law_ways", "_law_source", "_law_fits", "_law_word_here", "_law_below", "_law_one"] ["_law_state", "_law_paths_here", "_law_parameters_here"] (defScope s_law_row) := ⟨rfl, rfl, rfl, by decide +kernel, rfl, by decide +kernel, by decide +kernel⟩
theorem ok_law_row {f : Addr} {fd : FuncData} (F : FunD K "_law_row" "_law_row" (defArgs s_law_row) (defBody s_law_row) (defScope s_law_row) [] [] f fd) (T : Tx K mg) (c_law_of : Cal P w K mg base 2 "_law_of" ["_law_state", "_law_some"] sp_of) :
    FnOk P w K mg base CX0 3 f fd ["_law_state", "_law_paths_here", "_law_parameters_here"] sp_lrow := by
  refine F.ok sc_law_row (fun vs H Q E h => by obtain ⟨_, _, _, _, _, _, _, _, _, rfl, _⟩ := h; rfl) (fun cdv A outer s H vs Q E hr h => ?_)
  obtain ⟨st, g, l, Pt, Wt, t, us, qs, r, rfl, hP, hf, gd, hn, hW, hr', ok, S, ⟨p1, p2, p3⟩, ⟨w1, w2, w3⟩, q⟩ := h
  refine ⟨_, PSs.nox (pss_cons (ps_asg (pe_cal c_law_of (hr.mono (by omega)) (by rfl) (pa_cons (pv 0) (pa_cons (pe_slice (sl_listK K) (pv 1) (po_some pe_int) po_none) pa_nil))) (pg_tupK K (n := 2) rfl (pgs_cons (pg_name (i := 3) sc_law_row.nd rfl (by first | exact Or.inl rfl | exact Or.inr rfl)) (pgs_cons (pg_name (i := 4) sc_law_row.nd rfl (by first | exact Or.inl rfl | exact Or.inr rfl)) pgs_nil))))
      (pss_cons (ps_setLc (i := 5) (own := [("_law_word_here", 8), ("_law_below", 9)]) (by rfl) sc_law_row.nd rfl rfl (sw_true rfl rfl rfl (by decide +kernel)) (pi_listK K (pv 2)) (blkOk_by (N := ["_law_state", "_law_paths_here", "_law_parameters_here", "_law_path", "_law_tree_here", "_law_ways", "_law_source", "_law_fits", "_law_word_here", "_law_below", "_law_one"]) (sc := (defScope s_law_row)) (by decide +kernel)) (fun _ _ _ _ _ => (pg_tupK K (n := 2) rfl (pgs_cons (pg_name (i := 8) sc_law_row.nd rfl (by first | exact Or.inl rfl | exact Or.inr rfl)) (pgs_cons (pg_name (i := 9) sc_law_row.nd rfl (by first | exact Or.inl rfl | exact Or.inr rfl)) pgs_nil)))) (fun _ _ _ _ _ => pts_one (pt_cmpR (op_eqDK K hr.units) (pv 9) (pv 4) (nomark _))) (fun _ _ _ _ _ => (pe_tup (pa_cons pe_str (pa_cons (pv 8) pa_nil)))))
      (pss_cons (ps_set (i := 5) sc_law_row.nd rfl (by first | exact Or.inl rfl | exact Or.inr rfl) (pe_op op_cat (pv 5) (pv 5)))
      (pss_cons (ps_for PassesOwn.never rfl (pi_listK K (pe_lst (pa_cons pe_str (pa_cons pe_str (pa_cons pe_str pa_nil))))) (pg_name (i := 6) sc_law_row.nd rfl (by first | exact Or.inl rfl | exact Or.inr rfl))
        (pss_one (ps_if (PW.pt (pw_or (pt_cmpR op_ne (pv 6) pe_str (nomark _)) (pw_or1 (pt_cmpR (op_neDK K hr.units) (pv 4) (pe_tup pa_nil) (nomark _)))))
            (pss_cons (ps_setLc (i := 7) (own := [("_law_one", 10), ("_law_below", 9)]) (by rfl) sc_law_row.nd rfl rfl (sw_true rfl rfl rfl (by decide +kernel)) (pi_listK K (pe_slice (sl_listK K) (pv 1) (po_some pe_int) po_none)) (blkOk_by (N := ["_law_state", "_law_paths_here", "_law_parameters_here", "_law_path", "_law_tree_here", "_law_ways", "_law_source", "_law_fits", "_law_word_here", "_law_below", "_law_one"]) (sc := (defScope s_law_row)) (by decide +kernel)) (fun _ _ _ _ _ => (pg_tupK K (n := 2) rfl (pgs_cons (pg_name (i := 10) sc_law_row.nd rfl (by first | exact Or.inl rfl | exact Or.inr rfl)) (pgs_cons (pg_name (i := 9) sc_law_row.nd rfl (by first | exact Or.inl rfl | exact Or.inr rfl)) pgs_nil)))) (fun _ _ _ _ _ => pts_one (pt_cmpR (op_eqDK K hr.units) (pv 9) (pv 4) (nomark _))) (fun _ _ _ _ _ => (pv 10)))
              (pss_one (ps_expr (pe_bmK K PySem.F.plainAttrs_list PySem.F.slot_list_extend PySem.F.type_list_extend mt_extend (pv 5) (pa_cons (pe_lc (own := [("_law_one", 10)]) (by rfl) sc_law_row.nd (pi_listK K (pv 7)) (blkOk_by (N := ["_law_state", "_law_paths_here", "_law_parameters_here", "_law_path", "_law_tree_here", "_law_ways", "_law_source", "_law_fits", "_law_word_here", "_law_below", "_law_one"]) (sc := (defScope s_law_row)) (by decide +kernel)) (fun _ _ _ _ _ => (pg_name (i := 10) sc_law_row.nd rfl (by first | exact Or.inl rfl | exact Or.inr rfl))) (fun _ _ _ _ _ => pts_nil) (fun _ _ _ _ _ => (pe_tup (pa_cons (pv 6) (pa_cons (pv 10) pa_nil))))) pa_nil)))))
            pss_nil)))
      (pss_cons (ps_asg (pe_cal c_law_of (hr.mono (by omega)) (by rfl) (pa_cons (pv 0) (pa_cons (pv 5) pa_nil))) (pg_tupK K (n := 2) rfl (pgs_cons (pg_name (i := 6) sc_law_row.nd rfl (by first | exact Or.inl rfl | exact Or.inr rfl)) (pgs_cons (pg_name (i := 8) sc_law_row.nd rfl (by first | exact Or.inl rfl | exact Or.inr rfl)) pgs_nil))))
      (pss_one (ps_ret (pe_tup (pa_cons (pe_cal c_law_of (hr.mono (by omega)) (by rfl) (pa_cons (pv 0) (pa_cons (pe_lst (pa_cons pe_str (pa_cons pe_str (pa_cons pe_str (pa_cons pe_str pa_nil))))) pa_nil))) (pa_cons (pv 3) (pa_cons (pv 6) (pa_cons (pv 8) pa_nil)))))))))))), ?_⟩
  obtain ⟨u0, us', rfl, hf'⟩ := fs_uncons hf
  have lus := lnF hf'
  obtain ⟨md, ms, mh⟩ := good_has gd
  have lfp : (fp t).length ≤ 39 := by rw [fp_len]; exact ms
  have hcut : cutV (u0 :: us') (some 1) none = us' := cut_drop (us := u0 :: us') (i := 1) (by simp)
  have fpn : us' ≠ [] := fun e => by
    rw [e, List.length_nil, fp_len] at lus
    cases t with
    | nil => cases hn
    | cons w a b =>
      have : 1 + a.size + b.size = 0 := lus.symm
      omega
  refine ⟨_, rfl, _, rfl, _, rfl, noPart ⟨Pt, _, rfl, .inl (.inl hP), fun p0 np0 => ?_⟩⟩
  rw [hcut]
  have s0 := same_upd (o := .lst us') np0
  obtain ⟨e1, e2, e3⟩ := S.ne np0
  refine ⟨st, g, l, p0, us', rfl, upd_same, e1, e2, e3, fpn, by omega, S.same s0, fun v0 H2 hv0 S2 k2 => ?_⟩
  have k02 := (Kp.of s0 (st := st) (g := g) (l := l)).trans k2
  have tup2 : ∀ c xs, H c = some (.tup xs) → H2 c = some (.tup xs) := kp_tups S k02
  have hf2 := hf'.tups tup2
  have hr2 := hr'.tups tup2
  have hP2 := k02 _ _ hP p1 p2 p3
  have hW2 := k02 _ _ hW w1 w2 w3
  obtain ⟨m, hm, pm, tv, rfl, hpm, htv⟩ := fs_mem hf2 hv0
  have gu : good m.2 := (paths_good 3 md gd m (List.mem_cons_of_mem _ hm)).g
  refine ⟨pm, _, rfl, .inl (.inl hpm), rfl, _, _, rfl, _, _, rfl, rfl, ?_⟩
  -- given
  have lqs := lnF hr'
  have l3 := ok.len
  refine ⟨_, rfl, Wt, rfl, ⟨_, .inl (.inl hW2)⟩, fun D hD => ?_⟩
  refine lc_list (K := K) (a := Wt) (xs := qs) (fun j HY => Same H2 HY ∧ ∃ acc, HY D = some (.lst acc) ∧ acc.length ≤ j ∧ ∀ v ∈ acc, WayAt HY t r m.2 v) ⟨same_upd hD, [], upd_same, Nat.le_refl _, fun _ h => nomatch h⟩ (fun j HY hj p => .inl (.inl (p.1 _ _ hW2))) (fun j x HY hx p => ?_) (fun HY p => ?_)
  · obtain ⟨sY, acc, eD, la, ok2⟩ := p
    have hj : j < qs.length := (List.getElem?_eq_some_iff.mp hx).1
    obtain ⟨m', hm', pm', tv', rfl, hpm', htv'⟩ := fs_mem hr2 (List.mem_of_getElem? hx)
    refine ⟨pm', _, rfl, .inl (.inl (sY _ _ hpm')), rfl, _, _, rfl, _, _, rfl, rfl, rfl, ?_⟩
    refine ⟨_, rfl, _, rfl, tree_eq (ok.ok m' hm').2 gu (htv'.same sY) (htv.same sY) ⟨_, rfl, ?_⟩⟩
    cases ee : eqT m'.2 m.2 with
    | false => exact iteF ⟨sY, acc, eD, by omega, ok2⟩
    | true =>
      refine iteT ⟨_, rfl, (by show 2 ≤ sizeLine; decide), fun b nb => ?_⟩
      have sb := same_upd (o := .tup [.str "given", .str m'.1]) nb
      have eDb := sb _ _ eD
      refine ⟨acc, eDb, Nat.lt_of_lt_of_le (show acc.length < 1000 by omega) (by decide), same_mut (sY.trans sb) hD, acc ++ [.ref b], upd_same, by rw [List.length_append]; show acc.length + 1 ≤ _; omega, fun v hv => ?_⟩
      rcases List.mem_append.mp hv with hv | hv
      · exact ((ok2 v hv).tups fun c xs e => sb _ _ e).tups (mut_tups eDb)
      · have : v = .ref b := by simpa using hv
        rw [this]
        refine ⟨b, ("given", m'.1), rfl, mut_tups eDb _ _ upd_same, .inl ⟨rfl, ?_⟩⟩
        rw [← (eqT_iff _ _).mp ee]
        exact hm'
  obtain ⟨sY, acc, eD, la, ok2⟩ := p
  -- twice
  refine ⟨_, rfl, _, rfl, D, D, acc, acc, rfl, rfl, eD, eD, Nat.le_trans (show acc.length + acc.length ≤ 1000 by omega) (by decide), fun W nW => ?_⟩
  have sW := same_upd (o := .lst (acc ++ acc)) nW
  have s2W := sY.trans sW
  have eW : (upd HY W (.lst (acc ++ acc))) W = some (.lst (acc ++ acc)) := upd_same
  have nW2 : H2 W = none := sY.free nW
  have ok3 : ∀ v ∈ acc ++ acc, WayAt (upd HY W (.lst (acc ++ acc))) t r m.2 v := fun v hv => by
    rcases List.mem_append.mp hv with hv | hv <;> exact (ok2 v hv).tups fun c xs e => sW _ _ e
  have la3 : (acc ++ acc).length ≤ 6 := by rw [List.length_append]; omega
  obtain ⟨f1, f2, f3⟩ := S2.ne nW2
  generalize upd HY W (.lst (acc ++ acc)) = H3 at *
  generalize acc ++ acc = acc3 at *
  clear eD ok2 la
  dsimp only [gName]
  refine ⟨(by show 3 ≤ sizeLine; decide), fun L nL => ?_⟩
  have sL := same_upd (o := .lst [.str "present", .str "old", .str "copy"]) nL
  have eL : (upd H3 L (.lst [.str "present", .str "old", .str "copy"])) L = some (.lst (([("present" : Str), "old", "copy"]).map V.str)) := upd_same
  have eWL := sL _ _ eW
  have WL : W ≠ L := ne_of_none eW nL
  have s2L := s2W.trans sL
  have ok4 : ∀ v ∈ acc3, WayAt (upd H3 L (.lst [.str "present", .str "old", .str "copy"])) t r m.2 v := fun v hv => (ok3 v hv).tups fun c xs e => sL _ _ e
  refine ⟨L, rfl, ⟨_, .inl (.inl eL)⟩, ?_⟩
  refine for_it (walk_list (K := K) (a := L) (xs := ([("present" : Str), "old", "copy"]).map V.str)) (fun i σ HH => ∃ y6 y7 y8 y9 y10, σ = [some (.ref st), some (.ref Pt), some (.ref Wt), some (.str m.1), some tv, some (.ref W), y6, y7, y8, y9, y10] ∧ Same H2 HH ∧ HH L = some (.lst (([("present" : Str), "old", "copy"]).map V.str)) ∧ ∃ acc, HH W = some (.lst acc) ∧ acc.length ≤ 6 + 39 * i ∧ (∀ v ∈ acc, WayAt HH t r m.2 v) ∧ (0 < i → acc ≠ [])) ?_ (fun i σ HH hi p => ?_) (fun i v σ HH HH' hi p y => ?_) (fun σ HH p => ?_)
  · exact ⟨none, none, none, none, none, rfl, s2L, eL, acc3, eWL, by omega, ok4, fun h => absurd h (Nat.lt_irrefl 0)⟩
  · obtain ⟨_, _, _, _, _, _, _, eL, _⟩ := p
    exact .inl (.inl eL)
  · obtain ⟨y6, y7, y8, y9, y10, rfl, sH, eLH, acc, eWH, lacc, okH, neH⟩ := p
    obtain ⟨rfl, hx⟩ := y
    have hi3 : i < 3 := hi
    obtain ⟨src, rfl, hsrc⟩ : ∃ src, v = .str src ∧ src ∈ ([("present" : Str), "old", "copy"]) := by
      obtain ⟨z, hz, e⟩ := List.mem_map.mp (List.mem_of_getElem? hx)
      exact ⟨z, e.symm, hz⟩
    have hP3 := sH _ _ hP2
    have hf3 := hf2.same sH
    have htv3 := htv.same sH
    dsimp only [gName]
    refine ifR (src = "present" ∨ src = "old" ∨ (src = "copy" ∧ m.2.isNil = false)) (src = "copy") (fun Qb hT hF => ?_) (fun H4 s4 hC => ?_) (fun H4 s4 hC => ?_)
    · refine ⟨_, rfl, rfl, _, rfl, ?_⟩
      by_cases ec : src = "copy"
      · refine iteNN (by rw [ec]) ?_
        refine ⟨_, rfl, Nat.zero_le _, fun e0 ne0 => tree_ne gu good_nil (htv3.same (same_upd ne0)) ⟨e0, [], rfl, upd_same, rfl⟩ ⟨_, rfl, ?_⟩⟩
        have se := same_upd (o := .tup []) ne0
        cases en : eqT m.2 .nil with
        | true => exact hF _ se ec
        | false =>
          refine hT _ se (.inr (.inr ⟨ec, ?_⟩))
          cases em : m.2.isNil with
          | false => rfl
          | true =>
            rw [Tr.nil_of em, eqT_self] at en
            cases en
      · refine iteNY (fun z => ec (V.str.inj z)) (hT _ (Same.refl _) ?_)
        simp only [List.mem_cons, List.not_mem_nil, or_false] at hsrc
        rcases hsrc with h | h | h
        · exact .inl h
        · exact .inr (.inl h)
        · exact absurd h ec
    · have sH4 := sH.trans s4
      have hP4 := s4 _ _ hP3
      have hf4 := hf3.same s4
      have htv4 := htv3.same s4
      have eW4 := s4 _ _ eWH
      have eL4 := s4 _ _ eLH
      refine ⟨_, rfl, _, rfl, noPart ⟨Pt, _, rfl, .inl (.inl hP4), fun p5 np5 => ?_⟩⟩
      rw [hcut]
      have s5 := same_upd (o := .lst us') np5
      have e5 : (upd H4 p5 (.lst us')) p5 = some (.lst us') := upd_same
      refine ⟨p5, rfl, ⟨_, .inl (.inl e5)⟩, fun D6 hD6 => ?_⟩
      refine lcM (walk_list (xs := us')) (fp t) lus.symm (fun m' => if eqT m'.2 m.2 = true then some (.str m'.1) else none) (fun H s => s.seq (.inl (.inl e5))) (sz5 (by omega)) hD6 (fun j x m' H' hx' hm' s' => ?_) (fun H7 s7 e7 => ?_)
      · have mm' := List.mem_of_getElem? hm'
        obtain ⟨pm', q', g1, g2, g3⟩ := (hf4.same (s5.trans s')).get (m := m') (by rw [Tr.fields_of]; exact hm')
        rw [g1] at hx'
        cases hx'
        intro Q1 Q0 h1 h0
        refine ⟨pm', _, rfl, .inl (.inl g2), rfl, _, _, rfl, _, _, rfl, rfl, rfl, ?_⟩
        refine ⟨_, rfl, _, rfl, tree_eq (paths_good 3 md gd m' (List.mem_cons_of_mem _ mm')).g gu g3 (htv4.same (s5.trans s')) ⟨_, rfl, ?_⟩⟩
        cases ee : eqT m'.2 m.2 with
        | false => exact iteF (h0 _ (by rw [ee]; rfl) (Same.refl _))
        | true => exact iteT ⟨_, rfl, h1 _ _ (by rw [ee]; rfl) (Same.refl _)⟩
      have s47 := s5.trans s7
      generalize hfs : (fp t).filterMap (fun m' => if eqT m'.2 m.2 = true then some (V.str m'.1) else none) = fits at e7
      have lf : fits.length ≤ 39 := by rw [← hfs]; exact Nat.le_trans (List.length_filterMap_le _ _) lfp
      have mf : ∀ v ∈ fits, ∃ z, v = .str z ∧ (z, m.2) ∈ fp t := fun v hv => by
        rw [← hfs, List.mem_filterMap] at hv
        obtain ⟨m', hm', e⟩ := hv
        cases ee : eqT m'.2 m.2 with
        | false => rw [ee] at e; cases e
        | true =>
          rw [ee] at e
          cases e
          have := (eqT_iff _ _).mp ee
          exact ⟨m'.1, rfl, by rw [← this]; exact hm'⟩
      have nf : fits ≠ [] := fun e => by
        have : V.str m.1 ∈ fits := by
          rw [← hfs, List.mem_filterMap]
          exact ⟨m, hm, by rw [eqT_self]; rfl⟩
        rw [e] at this
        cases this
      clear hfs
      have eW7 := s47 _ _ eW4
      dsimp only [gName]
      refine ⟨_, rfl, .inl ⟨rfl, _, .inl (.inl eW7)⟩, _, rfl, D6, rfl, ⟨_, .inl (.inl e7)⟩, fun D8 hD8 => ?_⟩
      refine lc_list (K := K) (a := D6) (xs := fits) (fun j HY => Same H7 HY ∧ ∃ ac, HY D8 = some (.lst ac) ∧ ac.length = j ∧ ∀ v ∈ ac, WayAt HY t r m.2 v) ⟨same_upd hD8, [], upd_same, rfl, fun _ h => nomatch h⟩ (fun j HY hj p => .inl (.inl (p.1 _ _ e7))) (fun j x HY hx p => ?_) (fun HY p => ?_)
      · obtain ⟨sY, ac, eD, la, ok2⟩ := p
        have hj : j < fits.length := (List.getElem?_eq_some_iff.mp hx).1
        obtain ⟨z, rfl, hz⟩ := mf x (List.mem_of_getElem? hx)
        refine ⟨rfl, _, rfl, _, rfl, (by show 2 ≤ sizeLine; decide), fun b nb => ?_⟩
        have sb := same_upd (o := .tup [.str src, .str z]) nb
        have eDb := sb _ _ eD
        refine ⟨ac, eDb, Nat.lt_of_lt_of_le (show ac.length < 1000 by omega) (by decide), same_mut (sY.trans sb) hD8, ac ++ [.ref b], upd_same, by rw [List.length_append]; show ac.length + 1 = _; omega, fun v hv => ?_⟩
        rcases List.mem_append.mp hv with hv | hv
        · exact ((ok2 v hv).tups fun c xs e => sb _ _ e).tups (mut_tups eDb)
        · have : v = .ref b := by simpa using hv
          rw [this]
          exact ⟨b, (src, z), rfl, mut_tups eDb _ _ upd_same, .inr ⟨hC, hz⟩⟩
      obtain ⟨sY, ac, eD, la, ok2⟩ := p
      have s4Y := s47.trans sY
      have eWY := s4Y _ _ eW4
      refine ⟨W, D8, acc, ac, rfl, rfl, eWY, eD, Nat.le_trans (show acc.length + ac.length ≤ 1000 by omega) (by decide), ?_⟩
      refine ⟨_, _, _, _, _, rfl, same_mut (sH4.trans s4Y) nW2, ?_, acc ++ ac, upd_same, by rw [List.length_append]; omega, fun v hv => ?_, fun _ h => ?_⟩
      · rw [upd_ne WL.symm]
        exact s4Y _ _ eL4
      · rcases List.mem_append.mp hv with hv | hv
        · exact ((okH v hv).tups fun c xs e => (s4.trans s4Y) _ _ e).tups (mut_tups eWY)
        · exact (ok2 v hv).tups (mut_tups eWY)
      · have : ac ≠ [] := fun e => by
          rw [e] at la
          exact nf (List.length_eq_zero_iff.mp (by simpa using la.symm))
        exact this (List.append_eq_nil_iff.mp h).2
    · exact ⟨_, _, _, _, _, rfl, sH.trans s4, s4 _ _ eLH, acc, s4 _ _ eWH, by omega, fun v hv => (okH v hv).tups fun c xs e => s4 _ _ e, fun _ => by
        cases i with
        | zero =>
          have : some (V.str "present") = some (V.str src) := hx
          rw [hC] at this
          exact absurd (V.str.inj (Option.some.inj this)) (by decide +kernel)
        | succ i => exact neH (Nat.succ_pos _)⟩
  obtain ⟨y6, y7, y8, y9, y10, rfl, sH, eLH, acc, eWH, lacc, okH, neH⟩ := p
  have SH := S2.same sH
  have lacc : acc.length ≤ 6 + 39 * 3 := lacc
  refine ⟨_, rfl, _, rfl, st, g, l, W, acc, rfl, eWH, f1, f2, f3, neH (by decide), by omega, SH, fun v H5 hv S5 k5 => ?_⟩
  obtain ⟨pw, way, rfl, hpw, hway⟩ := (okH v hv).tups (kp_tups SH k5)
  refine ⟨pw, _, rfl, .inl (.inl hpw), rfl, _, _, rfl, _, _, rfl, rfl, ?_⟩
  refine ⟨_, rfl, (by show 4 ≤ sizeLine; decide), fun L6 nL6 => ?_⟩
  have s6 := same_upd (o := .lst (marks.map V.str)) nL6
  obtain ⟨i1, i2, i3⟩ := S5.ne nL6
  refine ⟨st, g, l, L6, marks.map V.str, rfl, upd_same, i1, i2, i3, by decide, by decide, S5.same s6, fun mk H7 hmk S7 k7 => ?_⟩
  obtain ⟨mk, hmk', rfl⟩ := List.mem_map.mp hmk
  refine ⟨_, rfl, _, rfl, _, rfl, (by show 4 ≤ sizeLine; decide), fun pr npr => ?_⟩
  have s8 := same_upd (o := rowH (mk, m.1, way.1, way.2)) npr
  exact q pr (mk, m.1, way.1, way.2) _ upd_same ⟨hmk', m.2, hm, hway⟩ (S7.same s8) ((((k02.trans (Kp.of sH)).trans k5).trans (Kp.of s6)).trans k7 |>.trans (Kp.of s8))
end
end Lx

namespace Lx
open PySem PySem.Spec PyProof.Rows L2 Ub Ur Ug Ue Up Uo Ve Va Vk Rw
section
variable {P : Program} {w : World} {K : PySem.W.Frag} {mg : Str → Option Value} {base : Heap}
theorem sc_law_row_text : FnScope ["_law_row_here", "_law_ahead"] ["_law_row_here"] (defScope s_law_row_text) := ⟨rfl, rfl, rfl, by decide +kernel, rfl, by decide +kernel, by decide +kernel⟩
theorem ok_law_row_text {f : Addr} {fd : FuncData} (F : FunD K "_law_row_text" "_law_row_text" (defArgs s_law_row_text) (defBody s_law_row_text) (defScope s_law_row_text) [] [] f fd) (T : Tx K mg) :
    FnOk P w K mg base CX0 1 f fd ["_law_row_here"] sp_rtext := by
  refine F.ok sc_law_row_text (fun vs H Q E h => by obtain ⟨_, _, _, _, rfl, _⟩ := h; rfl) (fun cdv A outer s H vs Q E hr h => ?_)
  obtain ⟨t, r, v, z, rfl, hd, gd, ok, q⟩ := h
  refine ⟨_, PSs.nox (pss_cons (ps_if (pt_cmpR (op_eqDK K hr.units) (pv 0) pe_str (nomark _))
        (pss_one (ps_ret (pv 0)))
        pss_nil)
      (pss_cons (ps_set (i := 1) sc_law_row_text.nd rfl (by first | exact Or.inl rfl | exact Or.inr rfl) (pe_ifExp (pt_cmpR (op_in_seqK K) (pe_ix (ix_tupK K) (pv 0) pe_int (fun _ _ => rfl)) (pe_lst (pa_cons pe_str (pa_cons pe_str pa_nil))) (by rfl)) (pe_op op_add_str (pe_ix (ix_tupK K) (pv 0) pe_int (fun _ _ => rfl)) pe_str) pe_str))
      (pss_one (ps_ret (pe_op op_add_str (pe_op op_add_str (pe_op op_add_str (pe_op op_add_str (pe_op op_add_str (pe_ix (ix_tupK K) (pv 0) pe_int (fun _ _ => rfl)) pe_str) (pe_ix (ix_tupK K) (pv 0) pe_int (fun _ _ => rfl))) pe_str) (pv 1)) (pe_ix (ix_tupK K) (pv 0) pe_int (fun _ _ => rfl))))))), ?_⟩
  refine ⟨_, rfl, ?_⟩
  refine tcI ?_
  refine drow_eq gd ok hd ⟨_, rfl, ?_⟩
  cases hd with
  | then_ => exact iteY rfl ⟨_, rfl, q _ (Same.refl _)⟩
  | row hp o =>
    rename_i p x
    refine iteN (fun z => nomatch z) ?_
    obtain ⟨a1, a2, a3, a4⟩ := row_al gd ok o
    dsimp only [tNext]
    refine asgS (fun v H' => v = .str (if x.2.2.1 = "old" ∨ x.2.2.1 = "copy" then x.2.2.1 ++ " " else "") ∧ Same H H') (fun Q' hQ' => ?_) ?_
    · refine ⟨_, rfl, p, _, 2, .str x.2.2.1, rfl, rfl, .inl (.inl hp), rfl, (by show 2 ≤ sizeLine; decide), fun c nc => ?_⟩
      have sc := same_upd (o := .lst [.str "old", .str "copy"]) nc
      refine ⟨c, (["old", "copy"] : List Str).map V.str, rfl, .inl (.inl (.inl upd_same)), rfl, rfl, _, rfl, ?_⟩
      refine iteE (c := decide (x.2.2.1 ∈ (["old", "copy"] : List Str))) (inV_str _ _) (fun e1 => ?_) (fun e1 => ?_)
      · have h1 : x.2.2.1 = "old" ∨ x.2.2.1 = "copy" := by simpa using of_decide_eq_true e1
        refine ⟨_, rfl, p, _, 2, .str x.2.2.1, rfl, rfl, .inl (.inl (sc _ _ hp)), rfl, _, _, rfl, rfl, ?_, hQ' _ _ ⟨by rw [if_pos h1], sc⟩⟩
        have e1 : (" " : Str).length = 1 := by decide +kernel
        exact Nat.le_trans (show x.2.2.1.length + (" " : Str).length ≤ 100 by rw [e1]; have := a3.2; omega) (by decide)
      · have h1 : ¬ (x.2.2.1 = "old" ∨ x.2.2.1 = "copy") := fun h => of_decide_eq_false e1 (by simpa using h)
        exact hQ' _ _ ⟨by rw [if_neg h1], sc⟩
    rintro v H1 ⟨rfl, s1⟩
    have hp1 := s1 _ _ hp
    have e1 : (" " : Str).length = 1 := by decide +kernel
    have e3 : (" = " : Str).length = 3 := by decide +kernel
    have la : (if x.2.2.1 = "old" ∨ x.2.2.1 = "copy" then x.2.2.1 ++ " " else "" : Str).length ≤ 8 := by
      have := a3.2
      split
      · rw [len_app, e1]; omega
      · exact Nat.zero_le _
    have sz : ∀ {n : Nat}, n ≤ 100 → n ≤ sizeLine := fun h => Nat.le_trans h (by decide)
    have b1 := a1.2
    have b2 := a2.2
    have b4 := a4.2
    generalize (if x.2.2.1 = "old" ∨ x.2.2.1 = "copy" then x.2.2.1 ++ " " else "" : Str) = ah at *
    refine ⟨_, rfl, p, _, 0, .str x.1, rfl, rfl, .inl (.inl hp1), at0, _, _, rfl, rfl, sz (by rw [e1]; omega), ?_⟩
    refine ⟨_, rfl, p, _, 1, .str x.2.1, rfl, rfl, .inl (.inl hp1), rfl, _, _, rfl, rfl, sz (by rw [len_app, e1]; omega), ?_⟩
    refine ⟨_, _, rfl, rfl, sz (by rw [len_app, len_app, e1, e3]; omega), ?_⟩
    refine ⟨_, rfl, _, _, rfl, rfl, sz (by rw [len_app, len_app, len_app, e1, e3]; omega), ?_⟩
    refine ⟨_, rfl, p, _, 3, .str x.2.2.2, rfl, rfl, .inl (.inl hp1), rfl, _, _, rfl, rfl, sz (by rw [len_app, len_app, len_app, len_app, e1, e3]; omega), ?_⟩
    exact q _ s1
theorem sc_law_rows : FnScope ["_law_state", "_law_paths_here", "_law_parameters_here", "_law_most", "_law_rows_here", "_law_turn", "_law_writings", "_law_row_here"] ["_law_state", "_law_paths_here", "_law_parameters_here", "_law_most"] (defScope s_law_rows) := ⟨rfl, rfl, rfl, by decide +kernel, rfl, by decide +kernel, by decide +kernel⟩
theorem ok_law_rows {f : Addr} {fd : FuncData} (F : FunD K "_law_rows" "_law_rows" (defArgs s_law_rows) (defBody s_law_rows) (defScope s_law_rows) [] [] f fd) (T : Tx K mg) (c_law_draw : Cal P w K mg base 1 "_law_draw" ["_law_state", "_law_many"] sp_draw) (c_law_row : Cal P w K mg base 3 "_law_row" ["_law_state", "_law_paths_here", "_law_parameters_here"] sp_lrow) :
    FnOk P w K mg base CX0 4 f fd ["_law_state", "_law_paths_here", "_law_parameters_here", "_law_most"] sp_lrows := by
  refine F.ok sc_law_rows (fun vs H Q E h => by obtain ⟨_, _, _, _, _, _, _, _, _, _, rfl, _⟩ := h; rfl) (fun cdv A outer s H vs Q E hr h => ?_)
  obtain ⟨st, g, l, Pt, Wt, t, us, qs, r, most, rfl, hmost, hP, hf, gd, hn, hW, hr', ok, S, ⟨p1, p2, p3⟩, ⟨w1, w2, w3⟩, q⟩ := h
  refine ⟨_, PSs.nox (pss_cons (ps_set (i := 4) sc_law_rows.nd rfl (by first | exact Or.inl rfl | exact Or.inr rfl) (pe_lst pa_nil))
      (pss_cons (ps_for PassesOwn.never rfl (pi_range1 (by rfl) T.range (pa_cons (pe_cal c_law_draw (hr.mono (by omega)) (by rfl) (pa_cons (pv 0) (pa_cons (pe_op op_add pe_int (pv 3)) pa_nil))) pa_nil)) (pg_name (i := 5) sc_law_rows.nd rfl (by first | exact Or.inl rfl | exact Or.inr rfl))
        (pss_cons (ps_setLc (i := 6) (own := [("_law_row_here", 7)]) (by rfl) sc_law_rows.nd rfl rfl (sw_true rfl rfl rfl (by decide +kernel)) (pi_listK K (pv 4)) (blkOk_by (N := ["_law_state", "_law_paths_here", "_law_parameters_here", "_law_most", "_law_rows_here", "_law_turn", "_law_writings", "_law_row_here"]) (sc := (defScope s_law_rows)) (by decide +kernel)) (fun _ _ _ _ _ => (pg_name (i := 7) sc_law_rows.nd rfl (by first | exact Or.inl rfl | exact Or.inr rfl))) (fun _ _ _ _ _ => pts_one (pt_cmpR (op_neDK K hr.units) (pv 7) pe_str (nomark _))) (fun _ _ _ _ _ => (pv 7)))
          (pss_one (ps_if (PW.pt (pw_and (pt_cmpR op_eq (pe_cal c_law_draw (hr.mono (by omega)) (by rfl) (pa_cons (pv 0) (pa_cons pe_int pa_nil))) pe_int (nomark _)) (pw_and1 (pt_cmpR op_lt (pe_op op_sub (pe_callB (call_len_seqK K) (by rfl) T.len (by decide +kernel) (pa_cons (pv 4) pa_nil)) (pe_callB (call_len_seqK K) (by rfl) T.len (by decide +kernel) (pa_cons (pv 6) pa_nil))) pe_int (nomark _)))))
            (pss_one (ps_expr (pe_bmK K PySem.F.plainAttrs_list PySem.F.slot_list_append PySem.F.type_list_append mt_append (pv 4) (pa_cons pe_str pa_nil))))
            (pss_one (ps_if (pt_cmpR op_lt (pe_callB (call_len_seqK K) (by rfl) T.len (by decide +kernel) (pa_cons (pv 6) pa_nil)) (pv 3) (nomark _))
                (pss_one (ps_expr (pe_bmK K PySem.F.plainAttrs_list PySem.F.slot_list_append PySem.F.type_list_append mt_append (pv 4) (pa_cons (pe_cal c_law_row (hr.mono (by omega)) (by rfl) (pa_cons (pv 0) (pa_cons (pv 1) (pa_cons (pv 2) pa_nil)))) pa_nil))))
                pss_nil))))))
      (pss_one (ps_ret (pv 4))))), ?_⟩
  refine ⟨Nat.zero_le _, fun D nD => ?_⟩
  dsimp only [gName]
  have sD := same_upd (o := .lst []) nD
  have eD : (upd H D (.lst [])) D = some (.lst []) := upd_same
  obtain ⟨d1, d2, d3⟩ := S.ne nD
  refine absH fun H1 e1 => ?_
  have e1 : H1 = upd H D (.lst []) := e1
  rw [← e1] at sD eD
  clear e1
  refine ⟨_, rfl, _, rfl, _, _, rfl, rfl, st, g, l, (4 + (most : Int)), rfl, by omega, by omega, S.same sD, fun dn H2 d0 d4 S2 k2 => ?_⟩
  obtain ⟨n, rfl⟩ : ∃ n : Nat, dn = (n : Int) := ⟨dn.toNat, by omega⟩
  refine ⟨_, rfl, by omega, by omega, ?_⟩
  have en : ((n : Int)).toNat = n := by omega
  rw [en]
  have k02 := (Kp.of sD (st := st) (g := g) (l := l)).trans k2
  refine for_range (lo := 0) (n := n) (fun i σ HH => ∃ (y5 y6 y7 : Option V) (po : List (V × Str)), σ = [some (.ref st), some (.ref Pt), some (.ref Wt), some (.int (most : Nat)), some (.ref D), y5, y6, y7] ∧ HH D = some (.lst (po.map (·.1))) ∧ (∀ m ∈ po, DRow t r HH m.1 m.2) ∧ po.length ≤ i ∧ thensM (po.map (·.2)) ≤ 3 ∧ po.length ≤ thensM (po.map (·.2)) + most ∧ StAt HH st g l ∧ Kp st g l H HH) ?_ (fun i σ HH hi p => ?_) (fun σ HH p => ?_)
  · exact ⟨none, none, none, [], rfl, k2 _ _ eD d1 d2 d3, (fun _ h => nomatch h), Nat.le_refl _, Nat.zero_le _, Nat.zero_le _, S2, k02⟩
  rotate_left
  · obtain ⟨y5, y6, y7, po, rfl, eD, hm, _, a1, a2, SH, kH⟩ := p
    exact ⟨_, rfl, q D po HH nD eD hm a1 a2 SH kH⟩
  obtain ⟨y5, y6, y7, po, rfl, eD, hm, li, a1, a2, SH, kH⟩ := p
  have lpo : po.length ≤ 11 := by omega
  -- the writings
  refine ⟨_, rfl, D, rfl, ⟨_, .inl (.inl eD)⟩, fun D1 hD1 => ?_⟩
  refine lcM (walk_list (xs := po.map (·.1))) po (by simp) (fun m : V × Str => if m.2 = ("then" : Str) then none else some m.1) (fun H s => s.seq (.inl (.inl eD))) (sz5 (by rw [List.length_map]; omega)) hD1 (fun j x m H' hx hm' s' => ?_) (fun H3 s3 e3 => ?_)
  · obtain rfl : x = m.1 := by
      rw [List.getElem?_map, hm'] at hx
      exact (Option.some.inj hx).symm
    have hd := (hm m (List.mem_of_getElem? hm')).tups fun c xs e => s' c _ e
    intro Q1 Q0 h1 h0
    refine ⟨rfl, _, rfl, ?_⟩
    refine tcI ?_
    refine drow_ne gd ok hd ⟨_, rfl, ?_⟩
    by_cases e : m.2 = "then"
    · exact iteNN (hd.isThen.mpr e) (h0 _ (if_pos e) (Same.refl _))
    · exact iteNY (fun z => e (hd.isThen.mp z)) ⟨_, rfl, h1 _ _ (if_neg e) (Same.refl _)⟩
  have hwl := writ_len po
  generalize (po.filterMap fun m : V × Str => if m.2 = ("then" : Str) then none else some m.1) = wr at e3 hwl
  have eD3 := s3 _ _ eD
  obtain ⟨c1, c2, c3⟩ := SH.ne hD1
  have SH3 := SH.same s3
  have k03 := kH.trans (Kp.of s3)
  have hm3 : ∀ m ∈ po, DRow t r H3 m.1 m.2 := fun m hm' => (hm m hm').tups fun c xs e => s3 c _ e
  dsimp only [gName]
  have app : ∀ (H5 : Hp) (v : V) (z : Str), StAt H5 st g l → Kp st g l H3 H5 → DRow t r H5 v z → (thensM (po.map (·.2)) + (if z = "then" then 1 else 0) ≤ 3 ∧ po.length + 1 ≤ thensM (po.map (·.2)) + (if z = "then" then 1 else 0) + most) → ∃ (po' : List (V × Str)), upd H5 D (.lst (po.map (·.1) ++ [v])) D = some (.lst (po'.map (·.1))) ∧ (∀ m ∈ po', DRow t r (upd H5 D (.lst (po.map (·.1) ++ [v]))) m.1 m.2) ∧ po'.length ≤ i + 1 ∧ thensM (po'.map (·.2)) ≤ 3 ∧ po'.length ≤ thensM (po'.map (·.2)) + most ∧ StAt (upd H5 D (.lst (po.map (·.1) ++ [v]))) st g l ∧ Kp st g l H (upd H5 D (.lst (po.map (·.1) ++ [v]))) := by
    intro H5 v z S5 k5 hv hcnt
    have eD5 := k5 _ _ eD3 d1 d2 d3
    refine ⟨po ++ [(v, z)], by rw [upd_same, List.map_append]; rfl, fun m hm' => ?_, by rw [List.length_append]; show po.length + 1 ≤ _; omega, ?_, ?_, S5.upd d1 d2 d3, fun b o e b1 b2 b3 => ?_⟩
    · rcases List.mem_append.mp hm' with hm' | hm'
      · exact ((hm3 m hm').tups (kp_tups SH3 k5)).tups (mut_tups eD5)
      · have : m = (v, z) := by simpa using hm'
        rw [this]
        exact hv.tups (mut_tups eD5)
    · rw [List.map_append]
      show thensM (_ ++ [z]) ≤ 3
      rw [thens_snoc]
      exact hcnt.1
    · rw [List.map_append, List.length_append]
      show po.length + 1 ≤ thensM (_ ++ [z]) + most
      rw [thens_snoc]
      exact hcnt.2
    · rw [upd_ne (ne_of_none e nD)]
      exact k5 _ _ (k03 _ _ e b1 b2 b3) b1 b2 b3
  refine ifG (fun H' => StAt H' st g l ∧ Kp st g l H3 H' ∧ po.length < wr.length + 3) (fun H' => StAt H' st g l ∧ Kp st g l H3 H') (fun Qb hT hF => ?_) (fun H4 h4 => ?_) (fun H4 h4 => ?_)
  · refine ⟨_, rfl, st, g, l, 4, rfl, by decide, by decide, SH3, fun d H4 dd0 dd4 S4 k4 => ⟨rfl, _, rfl, ?_⟩⟩
    by_cases e0 : d = 0
    · refine iteY (by rw [e0]) ?_
      have eD4 := k4 _ _ eD3 d1 d2 d3
      have e34 := k4 _ _ e3 c1 c2 c3
      refine ⟨_, rfl, D, _, rfl, .inl (.inl (.inl eD4)), _, rfl, D1, _, rfl, .inl (.inl (.inl e34)), _, _, rfl, rfl, _, _, rfl, rfl, _, rfl, ?_⟩
      rw [List.length_map]
      by_cases c : po.length < wr.length + 3
      · rw [decide_eq_true (show (po.length : Int) - (wr.length : Int) < 3 by omega)]
        exact hT _ ⟨S4, k4, c⟩
      · rw [decide_eq_false (show ¬ (po.length : Int) - (wr.length : Int) < 3 by omega)]
        exact hF _ ⟨S4, k4⟩
    · exact iteN (fun z => e0 (V.int.inj z)) (hF _ ⟨S4, k4⟩)
  · obtain ⟨S4, k4, c⟩ := h4
    have eD4 := k4 _ _ eD3 d1 d2 d3
    refine ⟨_, rfl, .inl ⟨rfl, _, .inl (.inl eD4)⟩, D, _, _, rfl, rfl, eD4, small1000 (by rw [List.length_map]; omega), ?_⟩
    obtain ⟨po', x2, x3, x4, x5, x6, x7, x8⟩ := app H4 _ "then" S4 k4 .then_ ⟨by rw [if_pos rfl]; omega, by rw [if_pos rfl]; omega⟩
    exact ⟨_, _, _, po', rfl, x2, x3, x4, x5, x6, x7, x8⟩
  · obtain ⟨S4, k4⟩ := h4
    have eD4 := k4 _ _ eD3 d1 d2 d3
    have e34 := k4 _ _ e3 c1 c2 c3
    have hm4 : ∀ m ∈ po, DRow t r H4 m.1 m.2 := fun m hm' => (hm3 m hm').tups (kp_tups SH3 k4)
    have k04 := k03.trans k4
    refine ifG (fun H' => H' = H4 ∧ wr.length < most) (fun H' => H' = H4) (fun Qb hT hF => ?_) (fun H5 h5 => ?_) (fun H5 h5 => ?_)
    · refine ⟨_, rfl, D1, _, rfl, .inl (.inl (.inl e34)), _, rfl, _, _, rfl, rfl, _, rfl, ?_⟩
      by_cases c : wr.length < most
      · rw [decide_eq_true (show (wr.length : Int) < (most : Int) by omega)]
        exact hT _ ⟨rfl, c⟩
      · rw [decide_eq_false (show ¬ (wr.length : Int) < (most : Int) by omega)]
        exact hF _ rfl
    · obtain ⟨rfl, c⟩ := h5
      refine ⟨_, rfl, .inl ⟨rfl, _, .inl (.inl eD4)⟩, _, rfl, _, rfl, _, rfl, st, g, l, Pt, Wt, t, us, qs, r, rfl, k04 _ _ hP p1 p2 p3, hf.tups (kp_tups S k04), gd, hn, k04 _ _ hW w1 w2 w3, hr'.tups (kp_tups S k04), ok, S4, ⟨p1, p2, p3⟩, ⟨w1, w2, w3⟩, fun p x H6 hp hx S6 k6 => ?_⟩
      have eD6 := k6 _ _ eD4 d1 d2 d3
      refine ⟨D, _, _, rfl, rfl, eD6, small1000 (by rw [List.length_map]; omega), ?_⟩
      have hd : DRow t r H6 (.ref p) _ := .row hp hx
      have hnt : ¬ (x.1 ++ " " ++ x.2.1 ++ " = " ++ (if x.2.2.1 = "old" ∨ x.2.2.1 = "copy" then x.2.2.1 ++ " " else "") ++ x.2.2.2) = "then" := fun z => nomatch hd.isThen.mpr z
      obtain ⟨po', x2, x3, x4, x5, x6, x7, x8⟩ := app H6 _ _ S6 (k4.trans k6) hd ⟨by rw [if_neg hnt]; omega, by rw [if_neg hnt]; omega⟩
      exact ⟨_, _, _, po', rfl, x2, x3, x4, x5, x6, x7, x8⟩
    · have h5 : H5 = H4 := h5
      subst h5
      exact ⟨_, _, _, po, rfl, eD4, hm4, by omega, a1, a2, S4, k04⟩
end
end Lx

namespace Lx
open PySem PySem.Spec PyProof.Rows L2 Ub Ur Ug Ue Up Uo Ve Va Vk Rw
section
variable {P : Program} {w : World} {K : PySem.W.Frag} {mg : Str → Option Value} {base : Heap}
theorem sc_law_parameters : FnScope ["_law_state", "_law_trees", "_law_found", "_law_turn", "_law_left", "_law_fits", "_law_word_here", "_law_tree_here", "_law_known"] ["_law_state", "_law_trees"] (defScope s_law_parameters) := ⟨rfl, rfl, rfl, by decide +kernel, rfl, by decide +kernel, by decide +kernel⟩
theorem ok_law_parameters {f : Addr} {fd : FuncData} (F : FunD K "_law_parameters" "_law_parameters" (defArgs s_law_parameters) (defBody s_law_parameters) (defScope s_law_parameters) [] [] f fd) (T : Tx K mg) (c_law_draw : Cal P w K mg base 1 "_law_draw" ["_law_state", "_law_many"] sp_draw) (c_law_of : Cal P w K mg base 2 "_law_of" ["_law_state", "_law_some"] sp_of) (c_law_word : Cal P w K mg base 2 "_law_word" ["_law_state", "_law_taken"] sp_word) (c_law_plains : Cal P w K mg base 4 "_law_plains" ["_law_tree_here"] (sp_tree 4 fun t => .int (t.plains : Nat))) :
    FnOk P w K mg base CX0 5 f fd ["_law_state", "_law_trees"] sp_lpars := by
  refine F.ok sc_law_parameters (fun vs H Q E h => by obtain ⟨_, _, _, _, _, rfl, _⟩ := h; rfl) (fun cdv A outer s H vs Q E hr h => ?_)
  obtain ⟨st, g, l, Lt, po, rfl, hL, hpo, lpo, S, n1, n2, n3, q⟩ := h
  refine ⟨_, PSs.nox (pss_cons (ps_set (i := 2) sc_law_parameters.nd rfl (by first | exact Or.inl rfl | exact Or.inr rfl) (pe_lst pa_nil))
      (pss_cons (ps_for PassesOwn.never rfl (pi_range1 (by rfl) T.range (pa_cons (pe_cal c_law_draw (hr.mono (by omega)) (by rfl) (pa_cons (pv 0) (pa_cons pe_int pa_nil))) pa_nil)) (pg_name (i := 3) sc_law_parameters.nd rfl (by first | exact Or.inl rfl | exact Or.inr rfl))
        (pss_cons (ps_set (i := 4) sc_law_parameters.nd rfl (by first | exact Or.inl rfl | exact Or.inr rfl) (pe_op op_sub pe_int (pe_callB (cr_sumK K rfl) (by rfl) T.sum (by decide +kernel) (pa_cons (pe_lc (own := [("_law_word_here", 6), ("_law_tree_here", 7)]) (by rfl) sc_law_parameters.nd (pi_listK K (pv 2)) (blkOk_by (N := ["_law_state", "_law_trees", "_law_found", "_law_turn", "_law_left", "_law_fits", "_law_word_here", "_law_tree_here", "_law_known"]) (sc := (defScope s_law_parameters)) (by decide +kernel)) (fun _ _ _ _ _ => (pg_tupK K (n := 2) rfl (pgs_cons (pg_name (i := 6) sc_law_parameters.nd rfl (by first | exact Or.inl rfl | exact Or.inr rfl)) (pgs_cons (pg_name (i := 7) sc_law_parameters.nd rfl (by first | exact Or.inl rfl | exact Or.inr rfl)) pgs_nil)))) (fun _ _ _ _ _ => pts_nil) (fun _ _ _ _ _ => (pe_cal c_law_plains (hr.mono (by omega)) (by rfl) (pa_cons (pv 7) pa_nil)))) pa_nil))))
          (pss_cons (ps_setLc (i := 5) (own := [("_law_tree_here", 7)]) (by rfl) sc_law_parameters.nd rfl rfl (sw_true rfl rfl rfl (by decide +kernel)) (pi_listK K (pe_op op_cat (pe_lst (pa_cons (pe_tup pa_nil) pa_nil)) (pv 1))) (blkOk_by (N := ["_law_state", "_law_trees", "_law_found", "_law_turn", "_law_left", "_law_fits", "_law_word_here", "_law_tree_here", "_law_known"]) (sc := (defScope s_law_parameters)) (by decide +kernel)) (fun _ _ _ _ _ => (pg_name (i := 7) sc_law_parameters.nd rfl (by first | exact Or.inl rfl | exact Or.inr rfl))) (fun _ _ _ _ _ => pts_one (pt_cmpR op_le (pe_cal c_law_plains (hr.mono (by omega)) (by rfl) (pa_cons (pv 7) pa_nil)) (pv 4) (nomark _))) (fun _ _ _ _ _ => (pv 7)))
          (pss_one (ps_if (pt_truthK K (pv 5) (by intro _; rfl))
            (pss_cons (ps_set (i := 6) sc_law_parameters.nd rfl (by first | exact Or.inl rfl | exact Or.inr rfl) (pe_cal c_law_word (hr.mono (by omega)) (by rfl) (pa_cons (pv 0) (pa_cons (pe_lc (own := [("_law_known", 8), ("_law_tree_here", 7)]) (by rfl) sc_law_parameters.nd (pi_listK K (pv 2)) (blkOk_by (N := ["_law_state", "_law_trees", "_law_found", "_law_turn", "_law_left", "_law_fits", "_law_word_here", "_law_tree_here", "_law_known"]) (sc := (defScope s_law_parameters)) (by decide +kernel)) (fun _ _ _ _ _ => (pg_tupK K (n := 2) rfl (pgs_cons (pg_name (i := 8) sc_law_parameters.nd rfl (by first | exact Or.inl rfl | exact Or.inr rfl)) (pgs_cons (pg_name (i := 7) sc_law_parameters.nd rfl (by first | exact Or.inl rfl | exact Or.inr rfl)) pgs_nil)))) (fun _ _ _ _ _ => pts_nil) (fun _ _ _ _ _ => (pv 8))) pa_nil))))
              (pss_one (ps_expr (pe_bmK K PySem.F.plainAttrs_list PySem.F.slot_list_append PySem.F.type_list_append mt_append (pv 2) (pa_cons (pe_tup (pa_cons (pv 6) (pa_cons (pe_cal c_law_of (hr.mono (by omega)) (by rfl) (pa_cons (pv 0) (pa_cons (pv 5) pa_nil))) pa_nil))) pa_nil)))))
            pss_nil)))))
      (pss_one (ps_ret (pv 2))))), ?_⟩
  refine ⟨Nat.zero_le _, fun D nD => ?_⟩
  dsimp only [gName]
  have sD := same_upd (o := .lst []) nD
  have eD : (upd H D (.lst [])) D = some (.lst []) := upd_same
  obtain ⟨d1, d2, d3⟩ := S.ne nD
  have DL : D ≠ Lt := fun z => by rw [z, hL] at nD; cases nD
  refine absH fun H1 e1 => ?_
  have e1 : H1 = upd H D (.lst []) := e1
  rw [← e1] at sD eD
  clear e1
  refine ⟨_, rfl, st, g, l, 4, rfl, by decide, by decide, S.same sD, fun dn H2 d0 d4 S2 k2 => ?_⟩
  obtain ⟨n, rfl⟩ : ∃ n : Nat, dn = (n : Int) := ⟨dn.toNat, by omega⟩
  refine ⟨_, rfl, by omega, by omega, ?_⟩
  have en : ((n : Int)).toNat = n := by omega
  rw [en]
  have k02 := (Kp.of sD (st := st) (g := g) (l := l)).trans k2
  refine for_range (lo := 0) (n := n) (fun i σ HH => ∃ y3 y4 y5 y6 y7 y8 qs r, σ = [some (.ref st), some (.ref Lt), some (.ref D), y3, y4, y5, y6, y7, y8] ∧ HH D = some (.lst qs) ∧ FsAt HH (.ofFields r) qs ∧ (r.length ≤ i ∧ (r.map fun m => m.2.plains).sum ≤ 3 ∧ (∀ m ∈ r, isWord m.1 = true ∧ good m.2) ∧ (r.map (·.1)).Nodup) ∧ (∀ m ∈ r, m.2 = .nil ∨ m.2 ∈ po.map (·.2)) ∧ StAt HH st g l ∧ Kp st g l H HH) ?_ (fun i σ HH hi p => ?_) (fun σ HH p => ?_)
  · exact ⟨none, none, none, none, none, none, [], [], rfl, k2 _ _ eD d1 d2 d3, rfl, ⟨Nat.zero_le _, Nat.zero_le _, (fun _ h => nomatch h), List.nodup_nil⟩, (fun _ h => nomatch h), S2, k02⟩
  rotate_left
  · obtain ⟨y3, y4, y5, y6, y7, y8, qs, r, rfl, eD, hf, ⟨a1, a2, a3, a4⟩, hm, SH, kH⟩ := p
    exact ⟨_, rfl, q D qs r HH nD eD hf ⟨by omega, a2, a3, a4⟩ hm SH kH⟩
  obtain ⟨y3, y4, y5, y6, y7, y8, qs, r, rfl, eD, hf, ⟨a1, a2, a3, a4⟩, hm, SH, kH⟩ := p
  have lqs := lnF hf
  have tup0 : ∀ c xs, H c = some (.tup xs) → HH c = some (.tup xs) := kp_tups S kH
  have hLH : HH Lt = some (.lst (po.map (·.1))) := kH _ _ hL n1 n2 n3
  -- left
  refine ⟨_, rfl, D, rfl, ⟨_, .inl (.inl eD)⟩, fun D1 hD1 => ?_⟩
  refine lcM (walk_list (xs := qs)) r lqs.symm (fun m => some (.int (m.2.plains : Nat))) (fun H s => s.seq (.inl (.inl eD))) (sz5 (by omega)) hD1 (fun j x m H' hx hm' s' => ?_) (fun H3 s3 e3 => ?_)
  · obtain ⟨p, q', g1, g2, g3⟩ := hf.get (m := m) (by rw [Tr.fields_of]; exact hm')
    rw [g1] at hx
    cases hx
    intro Q1 Q0 h1 h0
    obtain ⟨t1, t2, t3⟩ := good_has (a3 m (List.mem_of_getElem? hm')).2
    exact ⟨p, _, rfl, .inl (.inl (s' _ _ g2)), rfl, _, _, rfl, _, _, rfl, rfl, rfl, _, rfl, m.2, _, rfl, g3.same s', by omega, by omega, t3, fun H2 s4 => h1 _ _ rfl s4⟩
  have el : (r.filterMap fun m => some (V.int (m.2.plains : Nat))) = (r.map fun m => ((m.2.plains : Nat) : Int)).map V.int := by
    rw [List.filterMap_eq_map', List.map_map]
    rfl
  rw [el] at e3
  refine ⟨D1, _, rfl, .inl (.inl e3), _, _, rfl, rfl, ?_⟩
  rw [ints_sum]
  dsimp only [gName]
  generalize hsm : (r.map fun m => m.2.plains).sum = sm at *
  -- fits
  refine ⟨Nat.zero_le _, fun e0 ne0 => ⟨(by show 1 ≤ sizeLine; decide), fun L1 nL1 => ?_⟩⟩
  have s4 := same_upd (o := .tup []) ne0
  have s5 := same_upd (o := .lst [.ref e0]) nL1
  have eL1 : (upd (upd H3 e0 (.tup [])) L1 (.lst [.ref e0])) L1 = some (.lst [.ref e0]) := upd_same
  have ee0 := s5 _ _ (upd_same (H := H3) (a := e0) (o := .tup []))
  generalize upd (upd H3 e0 (.tup [])) L1 (.lst [.ref e0]) = H5 at *
  have s35 := (s3.trans s4).trans s5
  refine ⟨_, rfl, L1, Lt, _, _, rfl, rfl, eL1, s35 _ _ hLH, sz5 (by rw [List.length_map]; show 1 + _ ≤ _; omega), fun L2 nL2 => ?_⟩
  have s6 := same_upd (o := .lst ([.ref e0] ++ po.map (·.1))) nL2
  have eL2 : (upd H5 L2 (.lst ([.ref e0] ++ po.map (·.1)))) L2 = some (.lst ((((.ref e0, .nil) :: po : List (V × Tr))).map (·.1))) := upd_same
  have s36 := s35.trans s6
  have ee0 := s6 _ _ ee0
  generalize upd H5 L2 (.lst ([.ref e0] ++ po.map (·.1))) = H6 at *
  clear eL1 nL1 nL2 s4 s5 s6 ne0
  have hpo6 : ∀ m ∈ ((.ref e0, .nil) :: po : List (V × Tr)), TrAt H6 m.2 m.1 ∧ good m.2 := fun m hm => by
    rcases List.mem_cons.mp hm with rfl | hm
    · exact ⟨⟨e0, [], rfl, ee0, rfl⟩, good_nil⟩
    · exact ⟨((hpo m hm).1.tups tup0).same s36, (hpo m hm).2⟩
  have lpo6 : ((.ref e0, .nil) :: po : List (V × Tr)).length ≤ 61 := by rw [List.length_cons]; omega
  have mem6 : ∀ m ∈ ((.ref e0, .nil) :: po : List (V × Tr)), m.2 = .nil ∨ m.2 ∈ po.map (·.2) := fun m hm => by
    rcases List.mem_cons.mp hm with rfl | hm
    · exact .inl rfl
    · exact .inr (List.mem_map.mpr ⟨m, hm, rfl⟩)
  generalize ((.ref e0, .nil) :: po : List (V × Tr)) = po6 at *
  refine ⟨L2, rfl, ⟨_, .inl (.inl eL2)⟩, fun D2 hD2 => ?_⟩
  refine lcM (walk_list (xs := po6.map (·.1))) po6 (by simp) (fun m => if decide (m.2.plains + sm ≤ 3) = true then some m.1 else none) (fun H s => s.seq (.inl (.inl eL2))) (sz5 (by rw [List.length_map]; omega)) hD2 (fun j x m H' hx hm s' => ?_) (fun H7 s7 e7 => ?_)
  · obtain rfl := at_map hx hm
    obtain ⟨g1, g2⟩ := hpo6 m (List.mem_of_getElem? hm)
    obtain ⟨t1, t2, t3⟩ := good_has g2
    intro Q1 Q0 h1 h0
    refine ⟨rfl, _, rfl, m.2, m.1, rfl, g1.same s', by omega, by omega, t3, fun H8 s8 => ⟨_, rfl, _, _, rfl, rfl, _, rfl, ?_⟩⟩
    by_cases hd : m.2.plains + sm ≤ 3
    · exact iteY (by omega) ⟨_, rfl, h1 _ _ (by rw [if_pos (decide_eq_true hd)]) s8⟩
    · exact iteN (by omega) (h0 _ (by rw [decide_eq_false hd]; rfl) s8)
  rw [fm_filter (fun m => decide (m.2.plains + sm ≤ 3))] at e7
  generalize hpo7 : po6.filter (fun m => decide (m.2.plains + sm ≤ 3)) = po7 at e7
  have m7 : ∀ m ∈ po7, m ∈ po6 ∧ m.2.plains + sm ≤ 3 := fun m hm => by
    rw [← hpo7, List.mem_filter] at hm
    exact ⟨hm.1, of_decide_eq_true hm.2⟩
  have l7 : po7.length ≤ 61 := by rw [← hpo7]; exact Nat.le_trans (List.length_filter_le _ _) lpo6
  clear hpo7
  have s07 := s36.trans s7
  have eD7 := s07 _ _ eD
  have hf7 := hf.same s07
  have S7 := SH.same s07
  have k7 := kH.trans (Kp.of s07)
  dsimp only [gName]
  refine ⟨_, rfl, ?_⟩
  by_cases hne : po7 = []
  · refine ⟨false, .inl ⟨_, .inl (.inl e7), by rw [hne]; rfl⟩, iteF ?_⟩
    exact ⟨_, _, _, _, _, _, qs, r, rfl, eD7, hf7, ⟨by omega, by rw [hsm]; exact a2, a3, a4⟩, hm, S7, k7⟩
  refine ⟨true, .inl ⟨_, .inl (.inl e7), by cases po7 with | nil => exact absurd rfl hne | cons _ _ => rfl⟩, iteT ?_⟩
  -- a word
  refine ⟨_, rfl, _, rfl, D, rfl, ⟨_, .inl (.inl eD7)⟩, fun D3 hD3 => ?_⟩
  refine lcM (walk_list (xs := qs)) r lqs.symm (fun m => some (.str m.1)) (fun H s => s.seq (.inl (.inl eD7))) (sz5 (by omega)) hD3 (fun j x m H' hx hm' s' => ?_) (fun H8 s8 e8 => ?_)
  · obtain ⟨p, q', g1, g2, g3⟩ := hf7.get (m := m) (by rw [Tr.fields_of]; exact hm')
    rw [g1] at hx
    cases hx
    intro Q1 Q0 h1 h0
    exact ⟨p, _, rfl, .inl (.inl (s' _ _ g2)), rfl, _, _, rfl, _, _, rfl, rfl, rfl, _, rfl, h1 _ _ rfl (Same.refl _)⟩
  have el : (r.filterMap fun m => some (V.str m.1)) = (r.map (·.1)).map V.str := by
    rw [List.filterMap_eq_map', List.map_map]
    rfl
  rw [el] at e8
  obtain ⟨c1, c2, c3⟩ := S7.ne hD3
  refine ⟨st, g, l, D3, r.map (·.1), rfl, e8, c1, c2, c3, by rw [List.length_map]; omega, S7.same s8, fun z H9 hz hnz S9 k9 => ?_⟩
  have k89 := (Kp.of s8 (st := st) (g := g) (l := l)).trans k9
  have eD9 := k89 _ _ eD7 d1 d2 d3
  have tup9 : ∀ c xs, H7 c = some (.tup xs) → H9 c = some (.tup xs) := kp_tups S7 k89
  obtain ⟨b1, b2, b3⟩ := S7.ne (H := H7) (p := D3) hD3
  have nD2 : D2 ≠ st ∧ D2 ≠ g ∧ D2 ≠ l := (SH.same s36).ne hD2
  have e9 := k89 _ _ e7 nD2.1 nD2.2.1 nD2.2.2
  dsimp only [gName]
  refine ⟨_, rfl, .inl ⟨rfl, _, .inl (.inl eD9)⟩, _, rfl, _, rfl, _, rfl, st, g, l, D2, _, rfl, e9, nD2.1, nD2.2.1, nD2.2.2, (fun h => hne (List.map_eq_nil_iff.mp h)), by rw [List.length_map]; omega, S9, fun v H10 hv S10 k10 => ?_⟩
  obtain ⟨m, hm7, rfl⟩ := List.mem_map.mp hv
  obtain ⟨mm, hle⟩ := m7 m hm7
  have eD10 := k10 _ _ eD9 d1 d2 d3
  refine ⟨(by show 2 ≤ sizeLine; decide), fun u nu => ?_⟩
  have su := same_upd (o := .tup [.str z, m.1]) nu
  have eD11 := su _ _ eD10
  refine ⟨D, qs, _, rfl, rfl, eD11, small1000 (by omega), ?_⟩
  have tup10 : ∀ c xs, H7 c = some (.tup xs) → H10 c = some (.tup xs) := fun c xs e => kp_tups S9 k10 c xs (tup9 c xs e)
  have kM : ∀ c xs, (upd H10 u (.tup [.str z, m.1])) c = some (.tup xs) → (upd (upd H10 u (.tup [.str z, m.1])) D (.lst (qs ++ [.ref u]))) c = some (.tup xs) := mut_tups eD11
  have uu : (upd (upd H10 u (.tup [.str z, m.1])) D (.lst (qs ++ [.ref u]))) u = some (.tup [.str z, m.1]) := kM _ _ upd_same
  have ht : TrAt (upd (upd H10 u (.tup [.str z, m.1])) D (.lst (qs ++ [.ref u]))) m.2 m.1 := ((((hpo6 m mm).1.same s7).tups tup10).same su).tups kM
  have hfN : FsAt (upd (upd H10 u (.tup [.str z, m.1])) D (.lst (qs ++ [.ref u]))) (.ofFields (r ++ [(z, m.2)])) (qs ++ [.ref u]) := FsAt.snoc (((hf7.tups tup10).same su).tups kM) uu ht
  have kN : Kp st g l H (upd (upd H10 u (.tup [.str z, m.1])) D (.lst (qs ++ [.ref u]))) := fun b o e b1 b2 b3 => by
    rw [upd_ne (ne_of_none e nD)]
    exact su _ _ (k10 _ _ (k89 _ _ (k7 _ _ e b1 b2 b3) b1 b2 b3) b1 b2 b3)
  refine ⟨_, _, _, _, _, _, qs ++ [.ref u], r ++ [(z, m.2)], rfl, upd_same, hfN, ⟨?_, ?_, fun x hx => ?_, ?_⟩, fun x hx => ?_, (S10.same su).upd d1 d2 d3, kN⟩
  · rw [List.length_append]
    show r.length + 1 ≤ i + 1
    omega
  · rw [List.map_append, List.sum_append, hsm]
    show sm + (m.2.plains + 0) ≤ 3
    omega
  · rcases List.mem_append.mp hx with hx | hx
    · exact a3 x hx
    · have : x = (z, m.2) := by simpa using hx
      rw [this]
      exact ⟨hz, (hpo6 m mm).2⟩
  · rw [List.map_append, List.nodup_append]
    refine ⟨a4, by simp, fun a ha b hb e => hnz ?_⟩
    have : b = z := by simpa using hb
    rw [← this, ← e]
    exact ha
  · rcases List.mem_append.mp hx with hx | hx
    · exact hm x hx
    · have : x = (z, m.2) := by simpa using hx
      rw [this]
      exact mem6 m mm
end
end Lx

namespace Lx
open PySem PySem.Spec PyProof.Rows L2 Ub Ur Ug Ue Up
section
variable {P : Program} {w : World} {K : PySem.W.Frag} {mg : Str → Option Value} {base : Heap}
theorem sc_law_tree : FnScope ["_law_state", "_law_floors", "_law_room", "_law_pool", "_law_fields", "_law_turn", "_law_fits", "_law_way", "_law_field", "_law_tree_here", "_law_word_here"] ["_law_state", "_law_floors", "_law_room", "_law_pool"] (defScope s_law_tree) := ⟨rfl, rfl, rfl, by decide +kernel, rfl, by decide +kernel, by decide +kernel⟩
theorem ok_law_tree {f : Addr} {fd : FuncData} (F : FunD K "_law_tree" "_law_tree" (defArgs s_law_tree) (defBody s_law_tree) (defScope s_law_tree) [] [] f fd) (T : Tx K mg) (hm : mg "_law_tree" = some (.ref f)) (hb : Binds K fd ["_law_state", "_law_floors", "_law_room", "_law_pool"] []) (c_law_draw : Cal P w K mg base 1 "_law_draw" ["_law_state", "_law_many"] sp_draw) (c_law_of : Cal P w K mg base 2 "_law_of" ["_law_state", "_law_some"] sp_of) (c_law_word : Cal P w K mg base 2 "_law_word" ["_law_state", "_law_taken"] sp_word)
    (c_law_records : Cal P w K mg base 4 "_law_records" ["_law_tree_here"] (sp_tree 4 fun t => .int (t.recs : Nat))) (c_law_plains : Cal P w K mg base 4 "_law_plains" ["_law_tree_here"] (sp_tree 4 fun t => .int (t.plains : Nat))) (c_law_depth : Cal P w K mg base 4 "_law_depth" ["_law_tree_here"] (sp_tree 4 fun t => .int (t.depth : Nat))) :
    ∀ d, FnOk P w K mg base CX0 (d + 4) f fd ["_law_state", "_law_floors", "_law_room", "_law_pool"] (sp_ltree d)
  | 0 => no_ltree
  | d + 1 => by
    have c_law_tree : Cal P w K mg base (d + 4) "_law_tree" ["_law_state", "_law_floors", "_law_room", "_law_pool"] (sp_ltree d) := ⟨f, fd, ok_law_tree F T hm hb c_law_draw c_law_of c_law_word c_law_records c_law_plains c_law_depth d, hm, F.kp, hb⟩
    refine F.ok sc_law_tree (fun vs H Q E h => ?_) (fun cdv A outer s H vs Q E hr h => ?_)
    · obtain ⟨_, _, _, _, _, _, _, _, _, rfl, _⟩ := h
      rfl
    obtain ⟨st, g, l, rm, pl, f, r0, p0, po0, rfl, hfd, hf1, hf3, hr1, hp1, hp5, hpo, L0, q⟩ := h
    refine ⟨_, PSs.nox (pss_cons (ps_augS (pv 2) pe_int (get_listK K) pe_int ip_sub set_list)
      (pss_cons (ps_set (i := 4) sc_law_tree.nd rfl (by first | exact Or.inl rfl | exact Or.inr rfl) (pe_lst pa_nil))
      (pss_cons (ps_for PassesOwn.never rfl (pi_range1 (by rfl) T.range (pa_cons (pe_op op_add pe_int (pe_cal c_law_draw (hr.mono (by omega)) (by rfl) (pa_cons (pv 0) (pa_cons pe_int pa_nil)))) pa_nil)) (pg_name (i := 5) sc_law_tree.nd rfl (by first | exact Or.inl rfl | exact Or.inr rfl))
        (pss_cons (ps_setLc (i := 6) (own := [("_law_tree_here", 9)]) (by rfl) sc_law_tree.nd rfl rfl (sw_true rfl rfl rfl (by decide +kernel)) (pi_listK K (pv 3)) (blkOk_by (N := ["_law_state", "_law_floors", "_law_room", "_law_pool", "_law_fields", "_law_turn", "_law_fits", "_law_way", "_law_field", "_law_tree_here", "_law_word_here"]) (sc := (defScope s_law_tree)) (by decide +kernel)) (fun _ _ _ _ _ => (pg_name (i := 9) sc_law_tree.nd rfl (by first | exact Or.inl rfl | exact Or.inr rfl))) (fun _ _ _ _ _ => pts_one (pt_cmpR op_lt (pe_cal c_law_depth (hr.mono (by omega)) (by rfl) (pa_cons (pv 9) pa_nil)) (pv 1) (nomark _))) (fun _ _ _ _ _ => (pv 9)))
          (pss_cons (ps_setLc (i := 6) (own := [("_law_tree_here", 9)]) (by rfl) sc_law_tree.nd rfl rfl (sw_true rfl rfl rfl (by decide +kernel)) (pi_listK K (pv 6)) (blkOk_by (N := ["_law_state", "_law_floors", "_law_room", "_law_pool", "_law_fields", "_law_turn", "_law_fits", "_law_way", "_law_field", "_law_tree_here", "_law_word_here"]) (sc := (defScope s_law_tree)) (by decide +kernel)) (fun _ _ _ _ _ => (pg_name (i := 9) sc_law_tree.nd rfl (by first | exact Or.inl rfl | exact Or.inr rfl))) (fun _ _ _ _ _ => pts_one (pt_cmpR op_le (pe_cal c_law_records (hr.mono (by omega)) (by rfl) (pa_cons (pv 9) pa_nil)) (pe_ix (ix_listK K) (pv 2) pe_int (fun _ _ => rfl)) (nomark _))) (fun _ _ _ _ _ => (pv 9)))
          (pss_cons (ps_setLc (i := 6) (own := [("_law_tree_here", 9)]) (by rfl) sc_law_tree.nd rfl rfl (sw_true rfl rfl rfl (by decide +kernel)) (pi_listK K (pv 6)) (blkOk_by (N := ["_law_state", "_law_floors", "_law_room", "_law_pool", "_law_fields", "_law_turn", "_law_fits", "_law_way", "_law_field", "_law_tree_here", "_law_word_here"]) (sc := (defScope s_law_tree)) (by decide +kernel)) (fun _ _ _ _ _ => (pg_name (i := 9) sc_law_tree.nd rfl (by first | exact Or.inl rfl | exact Or.inr rfl))) (fun _ _ _ _ _ => pts_one (pt_cmpR op_le (pe_cal c_law_plains (hr.mono (by omega)) (by rfl) (pa_cons (pv 9) pa_nil)) (pe_ix (ix_listK K) (pv 2) pe_int (fun _ _ => rfl)) (nomark _))) (fun _ _ _ _ _ => (pv 9)))
          (pss_cons (ps_set (i := 7) sc_law_tree.nd rfl (by first | exact Or.inl rfl | exact Or.inr rfl) (pe_cal c_law_draw (hr.mono (by omega)) (by rfl) (pa_cons (pv 0) (pa_cons pe_int pa_nil))))
          (pss_cons (ps_set (i := 8) sc_law_tree.nd rfl (by first | exact Or.inl rfl | exact Or.inr rfl) (pe_tup pa_nil))
          (pss_cons (ps_if (PW.pt (pw_and (pt_cmpR op_gt (pv 7) pe_int (nomark _)) (pw_and1 (pt_truthK K (pv 6) (by intro _; rfl)))))
            (pss_cons (ps_set (i := 8) sc_law_tree.nd rfl (by first | exact Or.inl rfl | exact Or.inr rfl) (pe_cal c_law_of (hr.mono (by omega)) (by rfl) (pa_cons (pv 0) (pa_cons (pv 6) pa_nil))))
              (pss_cons (ps_augS (pv 2) pe_int (get_listK K) (pe_cal c_law_records (hr.mono (by omega)) (by rfl) (pa_cons (pv 8) pa_nil)) ip_sub set_list)
              (pss_one (ps_augS (pv 2) pe_int (get_listK K) (pe_cal c_law_plains (hr.mono (by omega)) (by rfl) (pa_cons (pv 8) pa_nil)) ip_sub set_list))))
            (pss_one (ps_if (PW.pt (pw_and (pt_cmpR op_gt (pv 7) pe_int (nomark _)) (pw_and (pt_cmpR op_gt (pv 1) pe_int (nomark _)) (pw_and (pt_cmpR op_gt (pe_ix (ix_listK K) (pv 2) pe_int (fun _ _ => rfl)) pe_int (nomark _)) (pw_and1 (pt_cmpR op_gt (pe_ix (ix_listK K) (pv 2) pe_int (fun _ _ => rfl)) pe_int (nomark _)))))))
                (pss_cons (ps_set (i := 8) sc_law_tree.nd rfl (by first | exact Or.inl rfl | exact Or.inr rfl) (pe_cal c_law_tree (hr.mono (by omega)) (by rfl) (pa_cons (pv 0) (pa_cons (pe_op op_sub (pv 1) pe_int) (pa_cons (pv 2) (pa_cons (pv 3) pa_nil))))))
                  (pss_one (ps_expr (pe_bmK K PySem.F.plainAttrs_list PySem.F.slot_list_append PySem.F.type_list_append mt_append (pv 3) (pa_cons (pv 8) pa_nil)))))
                (pss_one (ps_if (pt_cmpR op_gt (pe_ix (ix_listK K) (pv 2) pe_int (fun _ _ => rfl)) pe_int (nomark _))
                    (pss_one (ps_augS (pv 2) pe_int (get_listK K) pe_int ip_sub set_list))
                    (pss_one ps_break))))))
          (pss_one (ps_expr (pe_bmK K PySem.F.plainAttrs_list PySem.F.slot_list_append PySem.F.type_list_append mt_append (pv 4) (pa_cons (pe_tup (pa_cons (pe_cal c_law_word (hr.mono (by omega)) (by rfl) (pa_cons (pv 0) (pa_cons (pe_lc (own := [("_law_word_here", 10), ("_law_tree_here", 9)]) (by rfl) sc_law_tree.nd (pi_listK K (pv 4)) (blkOk_by (N := ["_law_state", "_law_floors", "_law_room", "_law_pool", "_law_fields", "_law_turn", "_law_fits", "_law_way", "_law_field", "_law_tree_here", "_law_word_here"]) (sc := (defScope s_law_tree)) (by decide +kernel)) (fun _ _ _ _ _ => (pg_tupK K (n := 2) rfl (pgs_cons (pg_name (i := 10) sc_law_tree.nd rfl (by first | exact Or.inl rfl | exact Or.inr rfl)) (pgs_cons (pg_name (i := 9) sc_law_tree.nd rfl (by first | exact Or.inl rfl | exact Or.inr rfl)) pgs_nil)))) (fun _ _ _ _ _ => pts_nil) (fun _ _ _ _ _ => (pv 10))) pa_nil))) (pa_cons (pv 8) pa_nil))) pa_nil)))))))))))
      (pss_one (ps_ret (pe_callTy (call_tuple_ofK K) (by rfl) T.tuple (by decide +kernel) (pa_cons (pv 4) pa_nil))))))), ?_⟩
    -- room[0] -= 1
    refine ⟨.ref rm, rfl, rm, _, 0, .int r0, rfl, rfl, .inl (.inl L0.hr), by decide, rfl, _, 1, rfl, rfl, rm, _, 0, 0, rfl, rfl, L0.hr, rfl, ?_⟩
    refine absH fun H1 e1 => ?_
    have L1 : Lt H1 st g l rm pl (r0 - 1) p0 po0 := by
      have e : (r0 : Int) - 1 = ((r0 - 1 : Nat) : Int) := by omega
      rw [e1]
      show Lt (upd H rm (.lst [.int ((r0 : Int) - 1), .int p0])) _ _ _ _ _ _ _ _
      rw [e]
      exact L0.room
    have k1 : Kn [st, g, l, rm, pl] H H1 := by rw [e1]; exact Kn.upd (by simp)
    clear e1
    -- fields = []
    refine ⟨Nat.zero_le _, fun fl nfl => ?_⟩
    have s2 := same_upd (o := .lst []) nfl
    have Lb := L1.same s2
    -- range(1 + draw)
    refine ⟨_, rfl, st, g, l, 3, rfl, by decide, by decide, Lb.S, fun dn H3 d0 d1 S3 k3 => ?_⟩
    have nf := L1.fresh nfl
    have nfH : H fl = none := by
      cases e : H fl with
      | none => rfl
      | some o => rw [k1 _ _ e nf] at nfl; cases nfl
    simp only [List.mem_cons, List.not_mem_nil, or_false, not_or] at nf
    have hf3' := k3 _ _ (upd_same (H := H1) (a := fl) (o := .lst [])) nf.1 nf.2.1 nf.2.2.1
    obtain ⟨n, rfl⟩ : ∃ n : Nat, dn = (n : Int) := ⟨dn.toNat, by omega⟩
    refine ⟨_, _, rfl, rfl, _, rfl, by omega, by omega, ?_⟩
    have en : (1 + (n : Int)).toNat = 1 + n := by omega
    rw [en]
    have I0 : LtI H H3 st g l rm pl fl f r0 p0 po0.length (r0 - 1) p0 po0 [] [] := ⟨Lb.kp S3 k3, (k1.trans (Kn.of s2)).trans (Kn.kp k3 (by simp) (by simp) (by simp)), hf3', L1.fresh nfl, nfH, rfl, (fun m hm => nomatch hm), List.nodup_nil, by show r0 - 1 + 0 + 1 = r0; omega, rfl, by omega⟩
    have fin : ∀ (σ : L2.St) (HH : Hp) (r p : Nat) (po : List (V × Tr)) (fs : List (Str × Tr)) (ps : List V) (y : List (Option V)), σ = some (.ref st) :: some (.int f) :: some (.ref rm) :: some (.ref pl) :: some (.ref fl) :: y → fs ≠ [] → fs.length ≤ 3 → LtI H HH st g l rm pl fl f r0 p0 po0.length r p po fs ps → tRet (tCB (rTupQ K) (tCons (tVar 4) tNil)) { nx := fun _ H' => Q .non H', rt := Q } σ HH := by
      rintro σ HH r p po fs ps y rfl hne hle I
      refine ⟨_, rfl, fl, ps, rfl, .inl ⟨.inl (.inl I.hf), fun u nu => ?_⟩⟩
      obtain ⟨e1, e2, e3⟩ := recs_of hne
      have su := same_upd (o := .tup ps) nu
      have J := I.same su
      refine q (.ofFields fs) (.ref u) _ r p po J.lt J.kn ⟨u, ps, rfl, upd_same, J.at_⟩ ?_ e3 ?_ ?_ ?_
      · obtain ⟨f', rfl⟩ : ∃ f', f = f' + 1 := ⟨f - 1, by omega⟩
        exact .inr (fineF_of fs 3 [] hne hle (fun m hm => ⟨(I.ok m hm).1, (I.ok m hm).2, by simp⟩) I.nd)
      · have := I.sr; omega
      · have := I.sp; omega
      · have := I.sl; omega
    refine for_range (lo := 0) (n := 1 + n) (fun i σ HH => ∃ r p po fs ps y5 y6 y7 y8, fs.length = i ∧ σ = [some (.ref st), some (.int f), some (.ref rm), some (.ref pl), some (.ref fl), y5, y6, y7, y8, none, none] ∧ LtI H HH st g l rm pl fl f r0 p0 po0.length r p po fs ps) ?_ (fun i σ HH hi p => ?_) (fun σ HH p => ?_)
    · exact ⟨_, _, _, [], [], none, none, none, none, rfl, rfl, I0⟩
    rotate_left
    · obtain ⟨r, p, po, fs, ps, y5, y6, y7, y8, hl, rfl, I⟩ := p
      exact fin _ _ r p po fs ps _ rfl (fun e => by rw [e] at hl; have : ([] : List (Str × Tr)).length = 0 := rfl; omega) (by omega) I
    obtain ⟨r, p, po, fs, ps, y5, y6, y7, y8, hl, rfl, I⟩ := p
    have lpo : po.length ≤ 25 := by have := I.sl; omega
    have tr4 : ∀ m ∈ po, m.2.depth < 4 ∧ m.2.size ≤ 1000 ∧ m.2.short := fun m hm => by
      obtain ⟨a, b, c⟩ := fine_has 3 m.2 (I.lt.po m hm).2
      have := bnd3 (Nat.le_refl 3)
      exact ⟨by omega, by omega, c⟩
    -- fits, by depth
    refine ⟨_, rfl, pl, rfl, ⟨_, .inl (.inl I.lt.hp)⟩, fun D1 hD1 => ?_⟩
    refine lcM (walk_list (xs := po.map (·.1))) po (by simp) (fun m => if decide (m.2.depth < f) = true then some m.1 else none) (fun H s => s.seq (.inl (.inl I.lt.hp))) (sz5 (by rw [List.length_map]; omega)) hD1 (fun j x m H' hx hm s' => ?_) (fun H4 s4 d4 => ?_)
    · obtain rfl := at_map hx hm
      have mm := List.mem_of_getElem? hm
      obtain ⟨t1, t2, t3⟩ := tr4 m mm
      intro Q1 Q0 h1 h0
      refine ⟨rfl, _, rfl, m.2, m.1, rfl, (I.lt.po m mm).1.same s', t1, t2, t3, fun H5 s5 => ⟨_, rfl, _, _, rfl, rfl, _, rfl, ?_⟩⟩
      by_cases hd : m.2.depth < f
      · exact iteY (by omega) ⟨_, rfl, h1 _ _ (by rw [if_pos (decide_eq_true hd)]) s5⟩
      · exact iteN (by omega) (h0 _ (by rw [decide_eq_false hd]; rfl) s5)
    rw [fm_filter (fun m => decide (m.2.depth < f))] at d4
    generalize hpo1 : po.filter (fun m => decide (m.2.depth < f)) = po1 at d4
    have m1 : ∀ m ∈ po1, m ∈ po ∧ m.2.depth < f := fun m hm => by
      rw [← hpo1, List.mem_filter] at hm
      exact ⟨hm.1, of_decide_eq_true hm.2⟩
    have l1 : po1.length ≤ 25 := by rw [← hpo1]; exact Nat.le_trans (List.length_filter_le _ _) lpo
    clear hpo1
    have I4 := I.same s4
    -- by records
    refine ⟨_, rfl, D1, rfl, ⟨_, .inl (.inl d4)⟩, fun D2 hD2 => ?_⟩
    refine lcM (walk_list (xs := po1.map (·.1))) po1 (by simp) (fun m => if decide (m.2.recs ≤ r) = true then some m.1 else none) (fun H s => s.seq (.inl (.inl d4))) (sz5 (by rw [List.length_map]; omega)) hD2 (fun j x m H' hx hm s' => ?_) (fun H5 s5 d5 => ?_)
    · obtain rfl := at_map hx hm
      have mm := (m1 m (List.mem_of_getElem? hm)).1
      obtain ⟨t1, t2, t3⟩ := tr4 m mm
      intro Q1 Q0 h1 h0
      refine ⟨rfl, _, rfl, m.2, m.1, rfl, (I4.lt.po m mm).1.same s', t1, t2, t3, fun H5 s5 => ⟨.ref rm, rfl, rm, _, 0, .int r, rfl, rfl, .inl (.inl (s5 _ _ (s' _ _ I4.lt.hr))), rfl, _, _, rfl, rfl, _, rfl, ?_⟩⟩
      by_cases hd : m.2.recs ≤ r
      · exact iteY (by omega) ⟨_, rfl, h1 _ _ (by rw [if_pos (decide_eq_true hd)]) s5⟩
      · exact iteN (by omega) (h0 _ (by rw [decide_eq_false hd]; rfl) s5)
    rw [fm_filter (fun m => decide (m.2.recs ≤ r))] at d5
    generalize hpo2 : po1.filter (fun m => decide (m.2.recs ≤ r)) = po2 at d5
    have m2 : ∀ m ∈ po2, m ∈ po ∧ m.2.depth < f ∧ m.2.recs ≤ r := fun m hm => by
      rw [← hpo2, List.mem_filter] at hm
      exact ⟨(m1 m hm.1).1, (m1 m hm.1).2, of_decide_eq_true hm.2⟩
    have l2 : po2.length ≤ 25 := by rw [← hpo2]; exact Nat.le_trans (List.length_filter_le _ _) l1
    clear hpo2
    have I5 := I4.same s5
    -- by plain values
    refine ⟨_, rfl, D2, rfl, ⟨_, .inl (.inl d5)⟩, fun D3 hD3 => ?_⟩
    refine lcM (walk_list (xs := po2.map (·.1))) po2 (by simp) (fun m => if decide (m.2.plains ≤ p) = true then some m.1 else none) (fun H s => s.seq (.inl (.inl d5))) (sz5 (by rw [List.length_map]; omega)) hD3 (fun j x m H' hx hm s' => ?_) (fun H6 s6 d6 => ?_)
    · obtain rfl := at_map hx hm
      have mm := (m2 m (List.mem_of_getElem? hm)).1
      obtain ⟨t1, t2, t3⟩ := tr4 m mm
      intro Q1 Q0 h1 h0
      refine ⟨rfl, _, rfl, m.2, m.1, rfl, (I5.lt.po m mm).1.same s', t1, t2, t3, fun H5 s5 => ⟨.ref rm, rfl, rm, _, 1, .int p, rfl, rfl, .inl (.inl (s5 _ _ (s' _ _ I5.lt.hr))), rfl, _, _, rfl, rfl, _, rfl, ?_⟩⟩
      by_cases hd : m.2.plains ≤ p
      · exact iteY (by omega) ⟨_, rfl, h1 _ _ (by rw [if_pos (decide_eq_true hd)]) s5⟩
      · exact iteN (by omega) (h0 _ (by rw [decide_eq_false hd]; rfl) s5)
    rw [fm_filter (fun m => decide (m.2.plains ≤ p))] at d6
    generalize hpo3 : po2.filter (fun m => decide (m.2.plains ≤ p)) = po3 at d6
    have m3 : ∀ m ∈ po3, m ∈ po ∧ m.2.depth < f ∧ m.2.recs ≤ r ∧ m.2.plains ≤ p := fun m hm => by
      rw [← hpo3, List.mem_filter] at hm
      exact ⟨(m2 m hm.1).1, (m2 m hm.1).2.1, (m2 m hm.1).2.2, of_decide_eq_true hm.2⟩
    have l3 : po3.length ≤ 25 := by rw [← hpo3]; exact Nat.le_trans (List.length_filter_le _ _) l2
    clear hpo3
    have I6 := I5.same s6
    -- way
    refine ⟨_, rfl, st, g, l, 3, rfl, by decide, by decide, I6.lt.S, fun wy H7 w0 w1 S7 k7 => ?_⟩
    have I7 := I6.kp S7 k7
    obtain ⟨nD1, nD2, nD3⟩ := I5.lt.S.ne hD3
    have d7 := k7 _ _ d6 nD1 nD2 nD3
    -- field = ()
    refine ⟨Nat.zero_le _, fun u nu => ?_⟩
    have su := same_upd (o := .tup []) nu
    have eu : (upd H7 u (.tup [])) u = some (.tup []) := upd_same
    have d8 := su _ _ d7
    have I8 := I7.same su
    dsimp only [gName]
    generalize upd H7 u (.tup []) = H8 at *
    refine seqJ (fun σ' H' => ∃ t v r' p' po' y5 y6 y7, σ' = [some (.ref st), some (.int f), some (.ref rm), some (.ref pl), some (.ref fl), y5, y6, y7, some v, none, none] ∧ Lt H' st g l rm pl r' p' po' ∧ Kn [st, g, l, rm, pl] H8 H' ∧ TrAt H' t v ∧ Fine (f - 1) t ∧ r' + t.recs = r ∧ p' + t.plains = p ∧ po'.length + r' ≤ po.length + r) (fun D' hD' _ ebk _ => ?_) ?_
    · have tw : ∀ Q : Bool → Hp → Prop, Q (decide (0 < wy)) H8 → tTest (tOp (rI0 fun i j => V.bl (decide (j < i))) (tVar 7) (tC (V.int 0))) [some (V.ref st), some (V.int f), some (V.ref rm), some (V.ref pl), some (V.ref fl), some (V.int (0 + i)), some (V.ref D3), some (V.int wy), some (V.ref u), none, none] H8 Q := fun Q h => ⟨_, rfl, _, _, rfl, rfl, _, rfl, h⟩
      have hrm := I8.lt.hr
      by_cases hA : 0 < wy ∧ po3 ≠ []
      · refine ifT (fun Q h => tw _ (iteY hA.1 ⟨.ref D3, rfl, true, .inl ⟨_, .inl (.inl d8), ?_⟩, h⟩)) ?_
        · cases po3 with
          | nil => exact absurd rfl hA.2
          | cons _ _ => rfl
        obtain ⟨np1, np2, np3⟩ := I5.lt.S.ne hD3
        refine ⟨_, rfl, _, rfl, st, g, l, D3, _, rfl, d8, np1, np2, np3, fun e => hA.2 (List.map_eq_nil_iff.mp e), by rw [List.length_map]; omega, I8.lt.S, fun v H9 hv S9 k9 => ?_⟩
        obtain ⟨m, hm, rfl⟩ := List.mem_map.mp hv
        obtain ⟨mm, q1, q2, q3⟩ := m3 m hm
        obtain ⟨t1, t2, t3⟩ := tr4 m mm
        have I9 := I8.kp S9 k9
        have ht9 := (I9.lt.po m mm).1
        -- room[0] -= records(field)
        refine ⟨.ref rm, rfl, rm, _, 0, .int r, rfl, rfl, .inl (.inl I9.lt.hr), by decide, rfl, _, rfl, m.2, m.1, rfl, ht9, t1, t2, t3, fun H10 s10 => ?_⟩
        refine ⟨_, _, rfl, rfl, rm, _, 0, 0, rfl, rfl, s10 _ _ I9.lt.hr, rfl, ?_⟩
        have L10 := (I9.same s10).lt.room (r' := r - m.2.recs) (p' := p)
        have e10 : (r : Int) - (m.2.recs : Nat) = ((r - m.2.recs : Nat) : Int) := by omega
        have ht10 : TrAt (upd H10 rm (.lst [.int ((r - m.2.recs : Nat) : Int), .int p])) m.2 m.1 := (L10.po m mm).1
        refine absH fun H11 e11 => ?_
        have e11' : H11 = upd H10 rm (.lst [.int ((r - m.2.recs : Nat) : Int), .int p]) := by rw [e11, ← e10]; rfl
        have k11 : Kn [st, g, l, rm, pl] H8 H11 := by
          rw [e11']
          exact ((Kn.kp k9 (by simp) (by simp) (by simp)).trans (Kn.of s10)).trans (Kn.upd (by simp))
        rw [← e11'] at L10 ht10
        clear e11 e11'
        -- room[1] -= plains(field)
        refine ⟨.ref rm, rfl, rm, _, 1, .int p, rfl, rfl, .inl (.inl L10.hr), by decide, rfl, _, rfl, m.2, m.1, rfl, ht10, t1, t2, t3, fun H12 s12 => ?_⟩
        refine ⟨_, _, rfl, rfl, rm, _, 1, 1, rfl, rfl, s12 _ _ L10.hr, rfl, ?_⟩
        have L12 := (L10.same s12).room (r' := r - m.2.recs) (p' := p - m.2.plains)
        have e12 : (p : Int) - (m.2.plains : Nat) = ((p - m.2.plains : Nat) : Int) := by omega
        show Ends.nx D' _ (upd H12 rm (.lst [.int ((r - m.2.recs : Nat) : Int), .int ((p : Int) - ((m.2.plains : Nat) : Int))]))
        rw [e12]
        refine hD' _ _ ⟨m.2, m.1, r - m.2.recs, p - m.2.plains, po, _, _, _, rfl, ?_⟩
        exact ⟨L12, (k11.trans (Kn.of s12)).trans (Kn.upd (by simp)), (L12.po m mm).1, fine_down _ _ _ (I.lt.po m mm).2 (by omega), by omega, by omega, by omega⟩
      refine ifF (fun Q h => tw _ ?_) ?_
      · by_cases hw : 0 < wy
        · refine iteY hw ⟨.ref D3, rfl, false, .inl ⟨_, .inl (.inl d8), ?_⟩, h⟩
          cases po3 with
          | nil => rfl
          | cons _ _ => exact absurd ⟨hw, by simp⟩ hA
        · exact iteN hw h
      have g0 : ∀ Q : Bool → Hp → Prop, ∀ σ : L2.St, σ[2]? = some (some (.ref rm)) → Q (decide (0 < (r : Int))) H8 → tTest (tOp (rI0 fun i j => V.bl (decide (j < i))) (tOp (rIxL K) (tVar 2) (tC (V.int 0))) (tC (V.int 0))) σ H8 Q := fun Q σ e h => ⟨_, e, rm, _, 0, .int r, rfl, rfl, .inl (.inl hrm), rfl, _, _, rfl, rfl, _, rfl, h⟩
      have g1 : ∀ Q : Bool → Hp → Prop, ∀ σ : L2.St, σ[2]? = some (some (.ref rm)) → Q (decide (0 < (p : Int))) H8 → tTest (tOp (rI0 fun i j => V.bl (decide (j < i))) (tOp (rIxL K) (tVar 2) (tC (V.int 1))) (tC (V.int 0))) σ H8 Q := fun Q σ e h => ⟨_, e, rm, _, 1, .int p, rfl, rfl, .inl (.inl hrm), rfl, _, _, rfl, rfl, _, rfl, h⟩
      by_cases hB : 0 < wy ∧ 1 < f ∧ 0 < r ∧ 0 < p
      · refine ifT (fun Q h => tw _ (iteY hB.1 ⟨_, rfl, _, _, rfl, rfl, _, rfl, iteY (by omega) (g0 _ _ rfl (iteY (by omega) (g1 _ _ rfl ?_)))⟩)) ?_
        · rw [decide_eq_true (by omega)]
          exact h
        -- a tree below
        have ef : ((f : Nat) : Int) - 1 = ((f - 1 : Nat) : Int) := by omega
        refine ⟨_, rfl, _, rfl, _, _, rfl, rfl, _, rfl, _, rfl, st, g, l, rm, pl, f - 1, r, p, po, ?_, by omega, by omega, by omega, by omega, by omega, by have := I.sp; omega, by have := I.sl; omega, I8.lt, fun t v H9 r' p' po' L9 k9 ht hft hn er ep el => ?_⟩
        · show [V.ref st, V.int (((f : Nat) : Int) - 1), V.ref rm, V.ref pl] = _
          rw [ef]
        -- pool.append(field)
        refine ⟨_, rfl, .inl ⟨rfl, _, .inl (.inl L9.hp)⟩, _, rfl, pl, _, _, rfl, rfl, L9.hp, Nat.lt_of_lt_of_le (show (po'.map (·.1)).length < 1000 by rw [List.length_map]; have := I.sl; omega) (by decide), ?_⟩
        have hf3t : Fine 3 t := fine_up hft (by omega)
        have L10 := L9.pool ht hf3t
        refine hD' _ _ ⟨t, v, r', p', po' ++ [(v, t)], _, _, _, rfl, L10, k9.trans (Kn.upd (by simp)), (L10.po (v, t) (by simp)).1, hft, er, ep, ?_⟩
        rw [List.length_append]
        have h1 : 1 ≤ t.recs := by
          unfold Tr.recs
          rw [hn]
          show 1 ≤ 1 + _
          omega
        show po'.length + 1 + r' ≤ _
        omega
      refine ifF (fun Q h => tw _ ?_) ?_
      · by_cases hw : 0 < wy
        · refine iteY hw ⟨_, rfl, _, _, rfl, rfl, _, rfl, ?_⟩
          by_cases hf : 1 < f
          · refine iteY (by omega) (g0 _ _ rfl ?_)
            by_cases hr0 : 0 < r
            · refine iteY (by omega) (g1 _ _ rfl ?_)
              rw [decide_eq_false (by omega)]
              exact h
            · exact iteN (by omega) h
          · exact iteN (by omega) h
        · exact iteN hw h
      by_cases hC : 0 < p
      · refine ifT (fun Q h => g1 _ _ rfl (by rw [decide_eq_true (by omega)]; exact h)) ?_
        refine ⟨.ref rm, rfl, rm, _, 1, .int p, rfl, rfl, .inl (.inl hrm), by decide, rfl, _, _, rfl, rfl, rm, _, 1, 1, rfl, rfl, hrm, rfl, ?_⟩
        have L12 := I8.lt.room (r' := r) (p' := p - 1)
        have e12 : (p : Int) - 1 = ((p - 1 : Nat) : Int) := by omega
        show Ends.nx D' _ (upd H8 rm (.lst [.int (r : Nat), .int ((p : Int) - 1)]))
        rw [e12]
        refine hD' _ _ ⟨.nil, .ref u, r, p - 1, po, _, _, _, rfl, ?_⟩
        refine ⟨L12, Kn.upd (by simp), ⟨u, [], rfl, ?_, rfl⟩, fine_down _ 0 _ rfl (Nat.zero_le _), rfl, ?_, by omega⟩
        · rw [upd_ne (ne_of eu hrm (by intro z; cases z))]
          exact eu
        · show p - 1 + 1 = p
          omega
      · refine ifF (fun Q h => g1 _ _ rfl (by rw [decide_eq_false (by omega)]; exact h)) ?_
        show D'.bk _ _
        rw [ebk]
        have hsp := I8.sp
        refine fin _ _ r p po fs ps _ rfl (fun e => ?_) (by omega) I8
        rw [e] at hsp
        have : sumP [] = 0 := rfl
        omega
    rintro σ' H9 ⟨t, v, r', p', po', y5', y6', y7', rfl, L9, k9, ht, hft, er, ep, el⟩
    obtain ⟨k9', hf9, at9⟩ := I8.go L9 k9
    have nf := I.nf
    simp only [List.mem_cons, List.not_mem_nil, or_false, not_or] at nf
    have lps : ps.length = fs.length := FsAt.len2 at9
    -- the words
    refine ⟨_, rfl, .inl ⟨rfl, _, .inl (.inl hf9)⟩, _, rfl, _, rfl, fl, rfl, ⟨_, .inl (.inl hf9)⟩, fun D hD => ?_⟩
    refine lcM (walk_list (xs := ps)) fs lps.symm (fun p => some (.str p.1)) (fun H s => s.seq (.inl (.inl hf9))) (sz5 (by omega)) hD (fun j x m H' hx hm s' => ?_) (fun H10 s10 d10 => ?_)
    · obtain ⟨pa, qv, g1, g2, _⟩ := at9.get (m := m) (by rw [Tr.fields_of]; exact hm)
      rw [g1] at hx
      cases hx
      intro Q1 Q0 h1 h0
      exact ⟨pa, _, rfl, .inl (.inl (s' _ _ g2)), rfl, _, _, rfl, _, _, rfl, rfl, rfl, _, rfl, h1 _ _ rfl (Same.refl _)⟩
    have ew : (fs.filterMap fun p => some (V.str p.1)) = (fs.map (·.1)).map V.str := by
      rw [List.filterMap_eq_map', List.map_map]
      rfl
    rw [ew] at d10
    have L10 := L9.same s10
    obtain ⟨nd1, nd2, nd3⟩ := L9.S.ne hD
    refine ⟨st, g, l, D, fs.map (·.1), rfl, d10, nd1, nd2, nd3, by rw [List.length_map]; omega, L10.S, fun z H11 hz hnz S11 k11 => ?_⟩
    have L11 := L10.kp S11 k11
    have k11' : Kn [st, g, l, rm, pl] H9 H11 := (Kn.of s10).trans (Kn.kp k11 (by simp) (by simp) (by simp))
    have tu := tups_of k11' L9.lists
    have hf11 := k11' _ _ hf9 I.nf
    -- the pair
    refine ⟨_, rfl, (by show 2 ≤ sizeLine; decide), fun pp npp => ?_⟩
    have sp := same_upd (o := .tup [.str z, v]) npp
    have epp : (upd H11 pp (.tup [.str z, v])) pp = some (.tup [.str z, v]) := upd_same
    refine ⟨fl, ps, _, rfl, rfl, sp _ _ hf11, Nat.lt_of_lt_of_le (show ps.length < 1000 by omega) (by decide), ?_⟩
    have L12 := L11.same sp
    have at12 := (at9.tups tu).same sp
    have ht12 := (ht.tups tu).same sp
    have hf12 := sp _ _ hf11
    have k12 := (k9'.trans k11').trans (Kn.of sp)
    generalize upd H11 pp (.tup [.str z, v]) = H12 at *
    have tu2 : ∀ c xs, H12 c = some (.tup xs) → (upd H12 fl (.lst (ps ++ [.ref pp]))) c = some (.tup xs) := fun c xs e => by
      rw [upd_ne (ne_of e hf12 (by intro z; cases z))]
      exact e
    have at13 : FsAt (upd H12 fl (.lst (ps ++ [.ref pp]))) (.ofFields (fs ++ [(z, t)])) (ps ++ [.ref pp]) := FsAt.snoc (at12.tups tu2) (tu2 _ _ epp) (ht12.tups tu2)
    obtain ⟨es1, es2⟩ := sum_snoc fs (z, t)
    refine ⟨r', p', po', fs ++ [(z, t)], ps ++ [.ref pp], _, _, _, _, ?_, rfl, ⟨L12.mut hf12 I.nf, k12.mut I.nw, upd_same, I.nf, I.nw, at13, fun m hm => ?_, ?_, ?_, ?_, ?_⟩⟩
    · rw [List.length_append, hl]
      rfl
    · rcases List.mem_append.mp hm with hm | hm
      · exact I.ok m hm
      · have e : m = (z, t) := by simpa using hm
        rw [e]
        exact ⟨hft, hz⟩
    · rw [List.map_append, List.nodup_append]
      refine ⟨I.nd, by simp, fun a ha b hb e => hnz ?_⟩
      have : b = z := by simpa using hb
      rw [← this, ← e]
      exact ha
    · have := I.sr
      rw [es1]
      show r' + (sumR fs + t.recs) + 1 = r0
      omega
    · have := I.sp
      rw [es2]
      show p' + (sumP fs + t.plains) = p0
      omega
    · have := I.sl
      omega
end
end Lx

namespace Lx
open PySem PySem.Spec PyProof.Rows L2 Ub Ur Ug Ue Up
section
variable {P : Program} {w : World} {K : PySem.W.Frag} {mg : Str → Option Value} {base : Heap}
theorem sc_law_made_shape : FnScope ["_law_state", "_law_least", "_law_room", "_law_tree_here", "_law_inner", "_law_words", "_law_turn", "_law_fields"] ["_law_state", "_law_least"] (defScope s_law_made_shape) := ⟨rfl, rfl, rfl, by decide +kernel, rfl, by decide +kernel, by decide +kernel⟩
theorem ok_law_made_shape {f : Addr} {fd : FuncData} (F : FunD K "_law_made_shape" "_law_made_shape" (defArgs s_law_made_shape) (defBody s_law_made_shape) (defScope s_law_made_shape) [] [] f fd) (T : Tx K mg) (c_law_draw : Cal P w K mg base 1 "_law_draw" ["_law_state", "_law_many"] sp_draw) (c_law_word : Cal P w K mg base 2 "_law_word" ["_law_state", "_law_taken"] sp_word) (c_law_tree : Cal P w K mg base 8 "_law_tree" ["_law_state", "_law_floors", "_law_room", "_law_pool"] (sp_ltree 4)) : FnOk P w K mg base CX0 9 f fd ["_law_state", "_law_least"] sp_mshape := by
  refine F.ok sc_law_made_shape (fun vs H Q E h => ?_) (fun cdv A outer s H vs Q E hr h => ?_)
  · obtain ⟨_, _, _, _, rfl, _⟩ := h
    rfl
  obtain ⟨st, g, l, le, rfl, hle1, hle2, S, q⟩ := h
  refine ⟨_, PSs.nox (pss_cons (ps_if (pt_cmpR op_eq (pe_cal c_law_draw (hr.mono (by omega)) (by rfl) (pa_cons (pv 0) (pa_cons pe_int pa_nil))) pe_int (nomark _))
        (pss_cons (ps_set (i := 2) sc_law_made_shape.nd rfl (by first | exact Or.inl rfl | exact Or.inr rfl) (pe_lst (pa_cons (pe_op op_add pe_int (pe_cal c_law_draw (hr.mono (by omega)) (by rfl) (pa_cons (pv 0) (pa_cons pe_int pa_nil)))) (pa_cons (pe_op op_add (pv 1) (pe_cal c_law_draw (hr.mono (by omega)) (by rfl) (pa_cons (pv 0) (pa_cons (pe_op op_sub pe_int (pv 1)) pa_nil)))) pa_nil))))
          (pss_cons (ps_set (i := 3) sc_law_made_shape.nd rfl (by first | exact Or.inl rfl | exact Or.inr rfl) (pe_cal c_law_tree (hr.mono (by omega)) (by rfl) (pa_cons (pv 0) (pa_cons (pe_op op_add pe_int (pe_cal c_law_draw (hr.mono (by omega)) (by rfl) (pa_cons (pv 0) (pa_cons pe_int pa_nil)))) (pa_cons (pv 2) (pa_cons (pe_lst pa_nil) pa_nil))))))
          (pss_one (ps_if (pt_cmpR op_ge (pe_callB (call_len_seqK K) (by rfl) T.len (by decide +kernel) (pa_cons (pv 3) pa_nil)) (pv 1) (nomark _))
            (pss_one (ps_ret (pv 3)))
            pss_nil))))
        pss_nil)
      (pss_cons (ps_set (i := 2) sc_law_made_shape.nd rfl (by first | exact Or.inl rfl | exact Or.inr rfl) (pe_lst (pa_cons pe_int (pa_cons (pe_op op_add pe_int (pe_cal c_law_draw (hr.mono (by omega)) (by rfl) (pa_cons (pv 0) (pa_cons pe_int pa_nil)))) pa_nil))))
      (pss_cons (ps_set (i := 4) sc_law_made_shape.nd rfl (by first | exact Or.inl rfl | exact Or.inr rfl) (pe_cal c_law_tree (hr.mono (by omega)) (by rfl) (pa_cons (pv 0) (pa_cons (pe_op op_add pe_int (pe_cal c_law_draw (hr.mono (by omega)) (by rfl) (pa_cons (pv 0) (pa_cons pe_int pa_nil)))) (pa_cons (pv 2) (pa_cons (pe_lst pa_nil) pa_nil))))))
      (pss_cons (ps_set (i := 5) sc_law_made_shape.nd rfl (by first | exact Or.inl rfl | exact Or.inr rfl) (pe_lst pa_nil))
      (pss_cons (ps_for PassesOwn.never rfl (pi_range1 (by rfl) T.range (pa_cons pe_int pa_nil)) (pg_name (i := 6) sc_law_made_shape.nd rfl (by first | exact Or.inl rfl | exact Or.inr rfl))
        (pss_one (ps_expr (pe_bmK K PySem.F.plainAttrs_list PySem.F.slot_list_append PySem.F.type_list_append mt_append (pv 5) (pa_cons (pe_cal c_law_word (hr.mono (by omega)) (by rfl) (pa_cons (pv 0) (pa_cons (pv 5) pa_nil))) pa_nil)))))
      (pss_cons (ps_set (i := 7) sc_law_made_shape.nd rfl (by first | exact Or.inl rfl | exact Or.inr rfl) (pe_lst (pa_cons (pe_tup (pa_cons (pe_ix (ix_listK K) (pv 5) pe_int (fun _ _ => rfl)) (pa_cons (pv 4) pa_nil))) (pa_cons (pe_tup (pa_cons (pe_ix (ix_listK K) (pv 5) pe_int (fun _ _ => rfl)) (pa_cons (pv 4) pa_nil))) pa_nil))))
      (pss_cons (ps_if (pt_truthK K (pe_cal c_law_draw (hr.mono (by omega)) (by rfl) (pa_cons (pv 0) (pa_cons pe_int pa_nil))) (by intro _; rfl))
        (pss_one (ps_expr (pe_bmK K PySem.F.plainAttrs_list PySem.F.slot_list_insert PySem.F.type_list_insert mt_insert (pv 7) (pa_cons (pe_cal c_law_draw (hr.mono (by omega)) (by rfl) (pa_cons (pv 0) (pa_cons pe_int pa_nil))) (pa_cons (pe_tup (pa_cons (pe_ix (ix_listK K) (pv 5) pe_int (fun _ _ => rfl)) (pa_cons (pe_tup pa_nil) pa_nil))) pa_nil)))))
        pss_nil)
      (pss_one (ps_ret (pe_callTy (call_tuple_ofK K) (by rfl) T.tuple (by decide +kernel) (pa_cons (pv 7) pa_nil))))))))))), ?_⟩
  refine seqJ (fun σ' H' => ∃ y2 y3, σ' = [some (.ref st), some (.int le), y2, y3, none, none, none, none] ∧ StAt H' st g l ∧ Kp st g l H H') (fun D' hD' ert _ _ => ?_) ?_
  · refine ⟨_, rfl, st, g, l, 4, rfl, by decide, by decide, S, fun d H1 d0 d1 S1 k1 => ⟨rfl, _, rfl, ?_⟩⟩
    refine ite2 (fun _ => ?_) (fun _ => hD' _ _ ⟨_, _, rfl, S1, k1⟩)
    refine ⟨_, rfl, st, g, l, 5, rfl, by decide, by decide, S1, fun r Ha r0 r1 Sa ka => ⟨_, _, rfl, rfl, ?_⟩⟩
    refine ⟨_, rfl, _, rfl, _, rfl, _, _, rfl, rfl, st, g, l, _, rfl, by omega, by omega, Sa, fun p Hb p0 p1 Sb kb => ⟨_, _, rfl, rfl, ?_⟩⟩
    obtain ⟨r', rfl⟩ : ∃ r' : Nat, r = (r' : Int) := ⟨r.toNat, by omega⟩
    obtain ⟨p', rfl⟩ : ∃ p' : Nat, p = (p' : Int) := ⟨p.toNat, by omega⟩
    refine ⟨(by show 2 ≤ sizeLine; decide), fun rm nrm => ?_⟩
    have kab := (k1.trans ka).trans kb
    have srm := same_upd (o := .lst [.int (1 + (r' : Int)), .int ((le : Int) + (p' : Int))]) nrm
    have erm : (upd Hb rm (.lst [.int (1 + (r' : Int)), .int ((le : Int) + (p' : Int))])) rm = some (.lst [.int (1 + (r' : Int)), .int ((le : Int) + (p' : Int))]) := upd_same
    have Sc := Sb.same srm
    obtain ⟨rm1, rm2, rm3⟩ := Sb.ne nrm
    have nrmH : H rm = none := Sb.back kab nrm
    have kc := kab.trans (Kp.of srm)
    dsimp only [gName]
    generalize upd Hb rm (.lst [.int (1 + (r' : Int)), .int ((le : Int) + (p' : Int))]) = Hc at *
    refine ⟨_, rfl, _, rfl, st, g, l, 3, rfl, by decide, by decide, Sc, fun f Hd f0 f1 Sd kd => ⟨_, _, rfl, rfl, ?_⟩⟩
    obtain ⟨f', rfl⟩ : ∃ f' : Nat, f = (f' : Int) := ⟨f.toNat, by omega⟩
    have erm2 := kd _ _ erm rm1 rm2 rm3
    have kd' := kc.trans kd
    refine ⟨_, rfl, Nat.zero_le _, fun pl npl => ?_⟩
    have spl := same_upd (o := .lst []) npl
    obtain ⟨pl1, pl2, pl3⟩ := Sd.ne npl
    have nplH : H pl = none := Sd.back kd' npl
    refine ⟨st, g, l, rm, pl, 1 + f', 1 + r', le + p', [], ?_, by omega, by omega, by omega, by omega, by omega, by omega, ?_, ⟨Sd.same spl, ?_, upd_same, (fun m hm => nomatch hm), rm1, rm2, rm3, pl1, pl2, pl3, ne_of_none erm2 npl⟩, fun t v He r2 p2 po2 Le ke ht hft hn er ep el => ?_⟩
    · show [V.ref st, V.int (1 + (f' : Int)), V.ref rm, V.ref pl] = _
      rw [show 1 + (f' : Int) = ((1 + f' : Nat) : Int) by omega]
    · show 0 + (1 + r') ≤ 20
      omega
    · rw [show ((1 + r' : Nat) : Int) = 1 + (r' : Int) by omega, show ((le + p' : Nat) : Int) = (le : Int) + (p' : Int) by omega]
      exact spl _ _ erm2
    have ke' : Kp st g l H He := Kn.drop (kd'.trans (Kp.of spl)) ke nrmH nplH
    obtain ⟨a, ps, rfl, ha, hfs⟩ := id ht
    have lps := hfs.len
    refine ⟨_, rfl, a, _, rfl, .inr (.inl (.inl ha)), _, rfl, _, _, rfl, rfl, _, rfl, ?_⟩
    by_cases hl : le ≤ t.fields.length
    · refine iteY (by omega) ?_
      refine ⟨_, rfl, ?_⟩
      rw [ert]
      exact q t _ He ⟨fine_up hft (by omega), by omega, by omega⟩ hn hl ht Le.S ke'
    · refine iteN (by omega) ?_
      exact hD' _ _ ⟨_, _, rfl, Le.S, ke'⟩
  rintro σ' H1 ⟨y2, y3, rfl, S1, k1⟩
  -- the second way
  refine ⟨_, rfl, st, g, l, 2, rfl, by decide, by decide, S1, fun p Hb p0 p1 Sb kb => ⟨_, _, rfl, rfl, ?_⟩⟩
  obtain ⟨p', rfl⟩ : ∃ p' : Nat, p = (p' : Int) := ⟨p.toNat, by omega⟩
  refine ⟨(by show 2 ≤ sizeLine; decide), fun rm nrm => ?_⟩
  have kab := k1.trans kb
  have srm := same_upd (o := .lst [.int 2, .int (1 + (p' : Int))]) nrm
  have erm : (upd Hb rm (.lst [.int 2, .int (1 + (p' : Int))])) rm = some (.lst [.int 2, .int (1 + (p' : Int))]) := upd_same
  have Sc := Sb.same srm
  obtain ⟨rm1, rm2, rm3⟩ := Sb.ne nrm
  have nrmH : H rm = none := Sb.back kab nrm
  have kc := kab.trans (Kp.of srm)
  dsimp only [gName]
  generalize upd Hb rm (.lst [.int 2, .int (1 + (p' : Int))]) = Hc at *
  refine ⟨_, rfl, _, rfl, st, g, l, 2, rfl, by decide, by decide, Sc, fun f Hd f0 f1 Sd kd => ⟨_, _, rfl, rfl, ?_⟩⟩
  obtain ⟨f', rfl⟩ : ∃ f' : Nat, f = (f' : Int) := ⟨f.toNat, by omega⟩
  have erm2 := kd _ _ erm rm1 rm2 rm3
  have kd' := kc.trans kd
  refine ⟨_, rfl, Nat.zero_le _, fun pl npl => ?_⟩
  have spl := same_upd (o := .lst []) npl
  obtain ⟨pl1, pl2, pl3⟩ := Sd.ne npl
  have nplH : H pl = none := Sd.back kd' npl
  refine ⟨st, g, l, rm, pl, 1 + f', 2, 1 + p', [], ?_, by omega, by omega, by omega, by omega, by omega, by omega, by decide, ⟨Sd.same spl, ?_, upd_same, (fun m hm => nomatch hm), rm1, rm2, rm3, pl1, pl2, pl3, ne_of_none erm2 npl⟩, fun t v He r2 p2 po2 Le ke ht hft hn er ep el => ?_⟩
  · show [V.ref st, V.int (1 + (f' : Int)), V.ref rm, V.ref pl] = _
    rw [show 1 + (f' : Int) = ((1 + f' : Nat) : Int) by omega]
  · rw [show ((1 + p' : Nat) : Int) = 1 + (p' : Int) by omega]
    exact spl _ _ erm2
  have ke' : Kp st g l H He := Kn.drop (kd'.trans (Kp.of spl)) ke nrmH nplH
  have hf2 : Fine 2 t := fine_up hft (by omega)
  have Se := Le.S
  -- words
  refine ⟨Nat.zero_le _, fun W nW => ?_⟩
  have sW := same_upd (o := .lst []) nW
  have eW : (upd He W (.lst [])) W = some (.lst []) := upd_same
  obtain ⟨W1, W2, W3⟩ := Se.ne nW
  have nWH : H W = none := Se.back ke' nW
  have SW := Se.same sW
  have htW := ht.same sW
  have kW := ke'.trans (Kp.of sW)
  dsimp only [gName]
  generalize upd He W (.lst []) = HW at *
  refine ⟨3, rfl, by decide, by decide, ?_⟩
  refine for_range (lo := 0) (n := 3) (fun i σ HH => ∃ (ws : List Str) (y6 : Option V), σ = [some (.ref st), some (.int le), some (.ref rm), y3, some v, some (.ref W), y6, none] ∧ StAt HH st g l ∧ Kp st g l H HH ∧ TrAt HH t v ∧ HH W = some (.lst (ws.map V.str)) ∧ ws.length = i ∧ ws.Nodup ∧ ∀ w ∈ ws, isWord w = true) ?_ (fun i σ HH hi pp => ?_) (fun σ HH pp => ?_)
  · exact ⟨[], none, rfl, SW, kW, htW, eW, rfl, List.nodup_nil, fun _ h => nomatch h⟩
  · obtain ⟨ws, y6, rfl, Sx, kx, tx, hW, lw, nd, ok⟩ := pp
    refine ⟨_, rfl, .inl ⟨rfl, _, .inl (.inl hW)⟩, _, rfl, _, rfl, st, g, l, W, ws, rfl, hW, W1, W2, W3, by omega, Sx, fun z Hz hz hnz Sz kz => ?_⟩
    have hWz := kz _ _ hW W1 W2 W3
    have tz : TrAt Hz t v := tx.tups (fun c xs e => by
      obtain ⟨⟨_, _, _, _, h1, h2, h3, _⟩, _⟩ := Sx
      exact kz _ _ e (ne_of e h1 (by intro z; cases z)) (ne_of e h2 (by intro z; cases z)) (ne_of e h3 (by intro z; cases z)))
    refine ⟨W, _, _, rfl, rfl, hWz, Nat.lt_of_lt_of_le (show (ws.map V.str).length < 1000 by rw [List.length_map]; omega) (by decide), ?_⟩
    refine ⟨ws ++ [z], _, rfl, Sz.upd W1 W2 W3, fun b o e b1 b2 b3 => ?_, tz.tups (fun c xs e => ?_), ?_, by rw [List.length_append, lw]; rfl, ?_, fun w hw => ?_⟩
    · rw [upd_ne (ne_of_none e nWH)]
      exact (kx.trans kz) b o e b1 b2 b3
    · rw [upd_ne (ne_of e hWz (by intro z; cases z))]
      exact e
    · rw [upd_same, List.map_append]
      rfl
    · rw [List.nodup_append]
      refine ⟨nd, by simp, fun a ha b hb e => hnz ?_⟩
      have : b = z := by simpa using hb
      rw [← this, ← e]
      exact ha
    · rcases List.mem_append.mp hw with hw | hw
      · exact ok w hw
      · have e : w = z := by simpa using hw
        rw [e]; exact hz
  obtain ⟨ws, y6, rfl, Sx, kx, tx, hW, lw, nd, ok⟩ := pp
  obtain ⟨w0, w1, w2, rfl⟩ : ∃ w0 w1 w2, ws = [w0, w1, w2] := by
    match ws, lw with
    | [a, b, c], _ => exact ⟨a, b, c, rfl⟩
  obtain ⟨a, ps, rfl, ha, hfs⟩ := id tx
  -- the two pairs
  refine ⟨_, rfl, W, _, 0, .str w0, rfl, rfl, .inl (.inl hW), at0, _, rfl, (by show 2 ≤ sizeLine; decide), fun q0 nq0 => ?_⟩
  have s0 := same_upd (o := .tup [.str w0, .ref a]) nq0
  refine ⟨_, rfl, W, _, 1, .str w1, rfl, rfl, .inl (.inl (s0 _ _ hW)), rfl, _, rfl, (by show 2 ≤ sizeLine; decide), fun q1 nq1 => ?_⟩
  have s1 := same_upd (o := .tup [.str w1, .ref a]) nq1
  refine ⟨(by show 2 ≤ sizeLine; decide), fun fl nfl => ?_⟩
  have s2 := same_upd (o := .lst [.ref q0, .ref q1]) nfl
  have eq0 := s2 _ _ (s1 _ _ (upd_same (H := HH) (a := q0) (o := .tup [.str w0, .ref a])))
  have eq1 := s2 _ _ (upd_same (H := upd HH q0 (.tup [.str w0, .ref a])) (a := q1) (o := .tup [.str w1, .ref a]))
  have efl : (upd (upd (upd HH q0 (.tup [.str w0, .ref a])) q1 (.tup [.str w1, .ref a])) fl (.lst [.ref q0, .ref q1])) fl = some (.lst [.ref q0, .ref q1]) := upd_same
  have s02 := (s0.trans s1).trans s2
  have nflH : H fl = none := by
    have z := Sx.same (s0.trans s1)
    exact z.back (kx.trans (Kp.of (s0.trans s1))) nfl
  obtain ⟨fl1, fl2, fl3⟩ := (Sx.same (s0.trans s1)).ne nfl
  dsimp only [gName]
  generalize upd (upd (upd HH q0 (.tup [.str w0, .ref a])) q1 (.tup [.str w1, .ref a])) fl (.lst [.ref q0, .ref q1]) = H3 at *
  have S3 := Sx.same s02
  have k3 := kx.trans (Kp.of s02)
  have t3 := tx.same s02
  have hW3 := s02 _ _ hW
  -- the end
  have hnd : w0 ≠ w1 ∧ w0 ≠ w2 ∧ w1 ≠ w2 := by
    simp only [List.nodup_cons, List.mem_cons, List.not_mem_nil, or_false, not_or] at nd
    exact ⟨nd.1.1, nd.1.2, nd.2.1⟩
  have fin : ∀ (fs : List (Str × Tr)) (qs : List V) (HH : Hp), fs ≠ [] → fs.length ≤ 3 → 2 ≤ fs.length → (∀ m ∈ fs, Fine 2 m.2 ∧ isWord m.1 = true) → (fs.map (·.1)).Nodup → 1 + sumR fs ≤ 5 → sumP fs ≤ 5 → FsAt HH (.ofFields fs) qs → HH fl = some (.lst qs) → StAt HH st g l → Kp st g l H HH → ∀ σ : L2.St, σ[7]? = some (some (.ref fl)) → tRet (tCB (rTupQ K) (tCons (tVar 7) tNil)) { nx := fun _ H' => Q .non H', rt := Q } σ HH := by
    intro fs qs HH hne hl3 hl2 hok hnd hr5 hp5 hat hfl hS hk σ hσ
    obtain ⟨e1, e2, e3⟩ := recs_of hne
    refine ⟨_, hσ, fl, qs, rfl, .inl ⟨.inl (.inl hfl), fun u nu => ?_⟩⟩
    have su := same_upd (o := .tup qs) nu
    exact q (.ofFields fs) (.ref u) _ ⟨.inr (fineF_of fs 3 [] hne hl3 (fun m hm => ⟨(hok m hm).1, (hok m hm).2, by simp⟩) hnd), by omega, by omega⟩ e3 (by rw [Tr.fields_of]; omega) ⟨u, qs, rfl, upd_same, hat.same su⟩ (hS.same su) (hk.trans (Kp.of su))
  have i0 : isWord w0 = true := ok w0 (by simp)
  have i1 : isWord w1 = true := ok w1 (by simp)
  have i2 : isWord w2 = true := ok w2 (by simp)
  refine ⟨_, rfl, st, g, l, 2, rfl, by decide, by decide, S3, fun d H4 d0 d1 S4 k4 => ⟨_, rfl, ?_⟩⟩
  have tu4 : ∀ c xs, H3 c = some (.tup xs) → H4 c = some (.tup xs) := fun c xs e => by
    obtain ⟨⟨_, _, _, _, h1, h2, h3, _⟩, _⟩ := S3
    exact k4 _ _ e (ne_of e h1 (by intro z; cases z)) (ne_of e h2 (by intro z; cases z)) (ne_of e h3 (by intro z; cases z))
  have t4 := t3.tups tu4
  have eq04 := tu4 _ _ eq0
  have eq14 := tu4 _ _ eq1
  have efl4 := k4 _ _ efl fl1 fl2 fl3
  have hW4 := k4 _ _ hW3 W1 W2 W3
  have k04 := k3.trans k4
  refine iteE rfl (fun _ => ?_) (fun _ => ?_)
  rotate_left
  · refine fin [(w0, t), (w1, t)] [.ref q0, .ref q1] H4 (by simp) (by simp) (by simp) (fun m hm => ?_) ?_ ?_ ?_ ⟨q0, _, _, rfl, eq04, t4, q1, _, _, rfl, eq14, t4, rfl⟩ efl4 S4 k04 _ rfl
    · simp only [List.mem_cons, List.not_mem_nil, or_false] at hm
      rcases hm with rfl | rfl
      · exact ⟨hf2, i0⟩
      · exact ⟨hf2, i1⟩
    · simp [hnd.1]
    · show 1 + (t.recs + (t.recs + 0)) ≤ 5
      omega
    · show t.plains + (t.plains + 0) ≤ 5
      omega
  -- insert
  refine ⟨_, rfl, .inl ⟨rfl, _, .inl (.inl efl4)⟩, ?_⟩
  refine ⟨_, rfl, st, g, l, 3, rfl, by decide, by decide, S4, fun at_ H5 a0 a1 S5 k5 => ?_⟩
  have tu5 : ∀ c xs, H4 c = some (.tup xs) → H5 c = some (.tup xs) := fun c xs e => by
    obtain ⟨⟨_, _, _, _, h1, h2, h3, _⟩, _⟩ := S4
    exact k5 _ _ e (ne_of e h1 (by intro z; cases z)) (ne_of e h2 (by intro z; cases z)) (ne_of e h3 (by intro z; cases z))
  have efl5 := k5 _ _ efl4 fl1 fl2 fl3
  have hW5 := k5 _ _ hW4 W1 W2 W3
  refine ⟨_, rfl, W, _, 2, .str w2, rfl, rfl, .inl (.inl hW5), rfl, Nat.zero_le _, fun u nu => ?_⟩
  have su := same_upd (o := .tup []) nu
  refine ⟨(by show 2 ≤ sizeLine; decide), fun q2 nq2 => ?_⟩
  have sq2 := same_upd (o := .tup [.str w2, .ref u]) nq2
  have s57 := su.trans sq2
  have eu := sq2 _ _ (upd_same (H := H5) (a := u) (o := .tup []))
  have eq2 : (upd (upd H5 u (.tup [])) q2 (.tup [.str w2, .ref u])) q2 = some (.tup [.str w2, .ref u]) := upd_same
  have efl7 := s57 _ _ efl5
  have S7 := S5.same s57
  have k7 := (k04.trans k5).trans (Kp.of s57)
  have tu7 : ∀ c xs, H4 c = some (.tup xs) → (upd (upd H5 u (.tup [])) q2 (.tup [.str w2, .ref u])) c = some (.tup xs) := fun c xs e => s57 _ _ (tu5 _ _ e)
  generalize upd (upd H5 u (.tup [])) q2 (.tup [.str w2, .ref u]) = H7 at *
  obtain ⟨n, rfl⟩ : ∃ n : Nat, at_ = (n : Int) := ⟨at_.toNat, by omega⟩
  refine ⟨fl, _, _, _, rfl, rfl, efl7, (by show 2 < sizeLine; decide), by omega, by omega, ?_⟩
  have tu8 : ∀ (qs : List V) c xs, H4 c = some (.tup xs) → (upd H7 fl (.lst qs)) c = some (.tup xs) := fun qs c xs e => by
    rw [upd_ne (ne_of (tu7 _ _ e) efl7 (by intro z; cases z))]
    exact tu7 _ _ e
  have eu8 : ∀ qs : List V, (upd H7 fl (.lst qs)) u = some (.tup []) := fun qs => by
    rw [upd_ne (ne_of eu efl7 (by intro z; cases z))]
    exact eu
  have eq28 : ∀ qs : List V, (upd H7 fl (.lst qs)) q2 = some (.tup [.str w2, .ref u]) := fun qs => by
    rw [upd_ne (ne_of eq2 efl7 (by intro z; cases z))]
    exact eq2
  have k8 : ∀ qs : List V, Kp st g l H (upd H7 fl (.lst qs)) := fun qs b o e b1 b2 b3 => by
    rw [upd_ne (ne_of_none e nflH)]
    exact k7 b o e b1 b2 b3
  have hn3 : n = 0 ∨ n = 1 ∨ n = 2 := by omega
  have okm : ∀ m : Str × Tr, (m = (w0, t) ∨ m = (w1, t) ∨ m = (w2, .nil)) → Fine 2 m.2 ∧ isWord m.1 = true := fun m hm => by
    rcases hm with rfl | rfl | rfl
    · exact ⟨hf2, i0⟩
    · exact ⟨hf2, i1⟩
    · exact ⟨.inl rfl, i2⟩
  obtain ⟨n01, n02, n12⟩ := hnd
  rcases hn3 with rfl | rfl | rfl
  · refine fin [(w2, .nil), (w0, t), (w1, t)] [.ref q2, .ref q0, .ref q1] _ (by simp) (by simp) (by simp) (fun m hm => okm m ?_) ?_ ?_ ?_ ⟨q2, _, _, rfl, eq28 _, ⟨u, [], rfl, eu8 _, rfl⟩, q0, _, _, rfl, tu8 _ _ _ eq04, t4.tups (tu8 _), q1, _, _, rfl, tu8 _ _ _ eq14, t4.tups (tu8 _), rfl⟩ upd_same (S7.upd fl1 fl2 fl3) (k8 _) _ rfl
    · simp only [List.mem_cons, List.not_mem_nil, or_false] at hm
      rcases hm with h | h | h
      · exact .inr (.inr h)
      · exact .inl h
      · exact .inr (.inl h)
    · simp [n01, Ne.symm n02, Ne.symm n12]
    · show 1 + (0 + (t.recs + (t.recs + 0))) ≤ 5
      omega
    · show 1 + (t.plains + (t.plains + 0)) ≤ 5
      omega
  · refine fin [(w0, t), (w2, .nil), (w1, t)] [.ref q0, .ref q2, .ref q1] _ (by simp) (by simp) (by simp) (fun m hm => okm m ?_) ?_ ?_ ?_ ⟨q0, _, _, rfl, tu8 _ _ _ eq04, t4.tups (tu8 _), q2, _, _, rfl, eq28 _, ⟨u, [], rfl, eu8 _, rfl⟩, q1, _, _, rfl, tu8 _ _ _ eq14, t4.tups (tu8 _), rfl⟩ upd_same (S7.upd fl1 fl2 fl3) (k8 _) _ rfl
    · simp only [List.mem_cons, List.not_mem_nil, or_false] at hm
      rcases hm with h | h | h
      · exact .inl h
      · exact .inr (.inr h)
      · exact .inr (.inl h)
    · simp [n01, n02, Ne.symm n12]
    · show 1 + (t.recs + (0 + (t.recs + 0))) ≤ 5
      omega
    · show t.plains + (1 + (t.plains + 0)) ≤ 5
      omega
  · refine fin [(w0, t), (w1, t), (w2, .nil)] [.ref q0, .ref q1, .ref q2] _ (by simp) (by simp) (by simp) (fun m hm => okm m ?_) ?_ ?_ ?_ ⟨q0, _, _, rfl, tu8 _ _ _ eq04, t4.tups (tu8 _), q1, _, _, rfl, tu8 _ _ _ eq14, t4.tups (tu8 _), q2, _, _, rfl, eq28 _, ⟨u, [], rfl, eu8 _, rfl⟩, rfl⟩ upd_same (S7.upd fl1 fl2 fl3) (k8 _) _ rfl
    · simp only [List.mem_cons, List.not_mem_nil, or_false] at hm
      rcases hm with h | h | h
      · exact .inl h
      · exact .inr (.inl h)
      · exact .inr (.inr h)
    · simp [n01, n02, n12]
    · show 1 + (t.recs + (t.recs + (0 + 0))) ≤ 5
      omega
    · show t.plains + (t.plains + (1 + 0)) ≤ 5
      omega
end
end Lx

namespace Lx
open PySem PySem.Spec PyProof.Rows L2 Ub Ur Ug Ue Up Uo Ve Va
section
variable {P : Program} {w : World} {K : PySem.W.Frag} {mg : Str → Option Value} {base : Heap}
theorem sc_law_paths : FnScope ["_law_tree_here", "_law_found", "_law_word_here", "_law_field", "_law_path", "_law_below"] ["_law_tree_here"] (defScope s_law_paths) := ⟨rfl, rfl, rfl, by decide +kernel, rfl, by decide +kernel, by decide +kernel⟩
theorem ok_law_paths {f : Addr} {fd : FuncData} (F : FunD K "_law_paths" "_law_paths" (defArgs s_law_paths) (defBody s_law_paths) (defScope s_law_paths) [] [] f fd) (T : Tx K mg) (hm : mg "_law_paths" = some (.ref f)) (hb : Binds K fd ["_law_tree_here"] []) : ∀ d, FnOk P w K mg base CX0 d f fd ["_law_tree_here"] (sp_lpaths d)
  | 0 => no_lpaths
  | d + 1 => by
    have c_law_paths : Cal P w K mg base d "_law_paths" ["_law_tree_here"] (sp_lpaths d) := ⟨f, fd, ok_law_paths F T hm hb d, hm, F.kp, hb⟩
    refine F.ok sc_law_paths (fun vs H Q E h => by obtain ⟨t, v, rfl, _⟩ := h; rfl) (fun cdv A outer s H vs Q E hr h => ?_)
    obtain ⟨t, v, rfl, hv, hd, hg, q⟩ := h
    refine ⟨_, PSs.nox (pss_cons (ps_set (i := 1) sc_law_paths.nd rfl (by first | exact Or.inl rfl | exact Or.inr rfl) (pe_lst (pa_cons (pe_tup (pa_cons pe_str (pa_cons (pv 0) pa_nil))) pa_nil)))
      (pss_cons (ps_for PassesOwn.never rfl (pi_tupK K (pv 0)) (pg_tupK K (n := 2) rfl (pgs_cons (pg_name (i := 2) sc_law_paths.nd rfl (by first | exact Or.inl rfl | exact Or.inr rfl)) (pgs_cons (pg_name (i := 3) sc_law_paths.nd rfl (by first | exact Or.inl rfl | exact Or.inr rfl)) pgs_nil)))
        (pss_one (ps_for PassesOwn.never rfl (pi_listK K (pe_cal c_law_paths (hr.mono (by omega)) (by rfl) (pa_cons (pv 3) pa_nil))) (pg_tupK K (n := 2) rfl (pgs_cons (pg_name (i := 4) sc_law_paths.nd rfl (by first | exact Or.inl rfl | exact Or.inr rfl)) (pgs_cons (pg_name (i := 5) sc_law_paths.nd rfl (by first | exact Or.inl rfl | exact Or.inr rfl)) pgs_nil)))
            (pss_one (ps_expr (pe_bmK K PySem.F.plainAttrs_list PySem.F.slot_list_append PySem.F.type_list_append mt_append (pv 1) (pa_cons (pe_tup (pa_cons (pe_op op_add_str (pe_op op_add_str pe_str (pv 2)) (pe_ifExp (pt_cmpR op_eq (pv 4) pe_str (nomark _)) pe_str (pv 4))) (pa_cons (pv 5) pa_nil))) pa_nil)))))))
      (pss_one (ps_ret (pv 1))))), ?_⟩
    obtain ⟨hdep, hsz, hsh⟩ := good_has hg
    obtain ⟨a, us, rfl, ha, hf⟩ := id hv
    have lp := hf.len
    refine ⟨_, rfl, (by show 2 ≤ sizeLine; decide), fun T0 nT0 => ⟨(by show 1 ≤ sizeLine; decide), fun D nD => ?_⟩⟩
    have s0 := (same_upd (o := .tup [.str ".", .ref a]) nT0).trans (same_upd (o := .lst [.ref T0]) nD)
    have nDT : T0 ≠ D := fun z => by rw [z, upd_same] at nD; cases nD
    have nDH : H D = none := (same_upd (o := .tup [.str ".", .ref a]) nT0).free nD
    dsimp only [gName]
    refine absH fun H1 e1 => ?_
    have e1 : H1 = upd (upd H T0 (.tup [.str ".", .ref a])) D (.lst [.ref T0]) := e1
    have dD1 : H1 D = some (.lst [.ref T0]) := by rw [e1]; exact upd_same
    have dT1 : H1 T0 = some (.tup [.str ".", .ref a]) := by rw [e1, upd_ne nDT]; exact upd_same
    rw [← e1] at s0
    clear e1
    refine ⟨_, rfl, a, rfl, ⟨_, .inl (.inl (s0 _ _ ha))⟩, ?_⟩
    refine for_tup (K := K) (a := a) (xs := us) (fun i σ HH => ∃ y2 y3 y4 y5 ps, σ = [some (.ref a), some (.ref D), y2, y3, y4, y5] ∧ Same H HH ∧ HH D = some (.lst ps) ∧ FsAt HH (.ofFields (upto t i)) ps) ?_ (fun i σ HH _ p => ?_) (fun i x σ HH hx p => ?_) (fun σ HH p => ?_)
    · refine ⟨_, _, _, _, _, rfl, s0, dD1, ?_⟩
      exact FsAt.snoc (l := []) (ps := []) rfl dT1 (hv.same s0)
    · obtain ⟨_, _, _, _, _, _, s1, _⟩ := p
      exact .inl (.inl (s1 _ _ ha))
    rotate_left
    · obtain ⟨y2, y3, y4, y5, ps, rfl, s1, dD, fD⟩ := p
      rw [lp, upto_all] at fD
      exact ⟨_, rfl, q D ps HH s1 nDH dD fD⟩
    obtain ⟨y2, y3, y4, y5, ps, rfl, s1, dD, fD⟩ := p
    have hi : i < t.fields.length := by
      rw [← lp]
      exact (List.getElem?_eq_some_iff.mp hx).1
    have hm : t.fields[i]? = some t.fields[i] := List.getElem?_eq_getElem hi
    generalize t.fields[i] = m at hm
    have hmm := List.mem_of_getElem? hm
    obtain ⟨pp, q', g1, g2, g3⟩ := hf.get hm
    rw [g1] at hx
    cases hx
    have dl := Tr.depth_lt hmm
    obtain ⟨gm, gw⟩ := (good_fields hg).1 m hmm
    obtain ⟨md, ms, mh⟩ := good_has gm
    have w8 := (isWord_iff.mp gw).2.1
    refine ⟨pp, _, rfl, .inl (.inl (s1 _ _ g2)), rfl, _, _, rfl, _, _, rfl, rfl, ?_⟩
    refine ⟨_, rfl, m.2, q', rfl, g3.same s1, by omega, gm, fun D2 ps2 H2 s2 nD2H hD2 f2 => ?_⟩
    have nD2 : D2 ≠ D := fun z => by rw [z, dD] at nD2H; cases nD2H
    refine ⟨D2, rfl, ⟨_, .inl (.inl hD2)⟩, ?_⟩
    refine for_list (K := K) (a := D2) (xs := ps2) (fun j σ HH => ∃ y4 y5 ps, σ = [some (.ref a), some (.ref D), some (.str m.1), some q', y4, y5] ∧ Same H HH ∧ HH D2 = some (.lst ps2) ∧ FsAt HH (.ofFields (paths m.2)) ps2 ∧ HH D = some (.lst ps) ∧ FsAt HH (.ofFields (upto t i ++ (sub1 m).take j)) ps) ?_ (fun j σ HH _ p => ?_) (fun j x σ HH hx p => ?_) (fun σ HH p => ?_)
    · refine ⟨_, _, _, rfl, s1.trans s2, hD2, f2, s2 _ _ dD, ?_⟩
      rw [List.take_zero, List.append_nil]
      exact fD.same s2
    · obtain ⟨_, _, _, _, _, z, _⟩ := p
      exact .inl (.inl z)
    rotate_left
    · obtain ⟨y4, y5, ps', rfl, s3, _, _, dD3, fD3⟩ := p
      refine ⟨_, _, _, _, _, rfl, s3, dD3, ?_⟩
      have l2 : ps2.length = (sub1 m).length := by rw [lnF f2]; unfold sub1; rw [List.length_map]
      rw [l2, List.take_length, ← upto_next hm] at fD3
      exact fD3
    obtain ⟨y4, y5, ps', rfl, s4, dd4, ff4, dD4, fD4⟩ := p
    generalize HH = H4 at *
    have hj : j < (paths m.2).length := by
      rw [← lnF ff4]
      exact (List.getElem?_eq_some_iff.mp hx).1
    have hn : (paths m.2)[j]? = some (paths m.2)[j] := List.getElem?_eq_getElem hj
    generalize (paths m.2)[j] = n at hn
    obtain ⟨p2, q2, k1, k2, tq2⟩ := FsAt.get (t := .ofFields (paths m.2)) ff4 (by rw [Tr.fields_of]; exact hn)
    rw [k1] at hx
    cases hx
    have ln := (paths_good 3 md gm n (List.mem_of_getElem? hn)).l
    refine ⟨p2, _, rfl, .inl (.inl k2), rfl, _, _, rfl, _, _, rfl, rfl, ?_⟩
    refine ⟨_, rfl, .inl ⟨rfl, _, .inl (.inl dD4)⟩, ?_⟩
    refine ⟨_, rfl, _, _, rfl, rfl, sz4 (by rw [dot_len]; omega), ?_⟩
    refine ⟨_, rfl, rfl, _, rfl, ?_⟩
    by_cases c : n.1 = "."
    · refine iteY (by rw [c]) ?_
      refine ⟨_, _, rfl, rfl, sz4 (by rw [len_app, dot_len, show (("" : Str)).length = 0 from rfl]; omega), ?_⟩
      refine ⟨_, rfl, (by show 2 ≤ sizeLine; decide), fun T1 nT1 => ?_⟩
      have sT := same_upd (o := .tup [.str (down m.1 n.1), q2]) nT1
      refine absH fun H5 e5 => ?_
      have e5 : H5 = upd H4 T1 (.tup [.str (down m.1 n.1), q2]) := e5.trans (by unfold down; rw [if_pos c])
      rw [← e5] at sT
      have hT1 : H5 T1 = some (.tup [.str (down m.1 n.1), q2]) := by rw [e5]; exact upd_same
      clear e5
      refine ⟨D, _, _, rfl, rfl, sT _ _ dD4, sz6 (by rw [lnF fD4, List.length_append]; have u1 := upto_len t i; have u2 := List.length_take_le' j (sub1 m); have : (sub1 m).length ≤ 1 + m.2.size := (by unfold sub1; rw [List.length_map]; show (fp m.2).length + 1 ≤ _; rw [fp_len]; omega); omega), ?_⟩
      refine ⟨_, _, _, rfl, same_mut (s4.trans sT) nDH, ?_, ?_, upd_same, ?_⟩
      · rw [upd_ne nD2]; exact sT _ _ dd4
      · exact FsAt.tups (t := .ofFields (paths m.2)) (mut_tups (sT _ _ dD4)) (FsAt.tups (t := .ofFields (paths m.2)) (fun c zs e => sT _ _ e) ff4)
      · have e6 : (sub1 m).take (j + 1) = (sub1 m).take j ++ [(down m.1 n.1, n.2)] := by
          rw [List.take_add_one]
          have : (sub1 m)[j]? = some (down m.1 n.1, n.2) := by unfold sub1; rw [List.getElem?_map, hn]; rfl
          rw [this]
          rfl
        rw [e6, ← List.append_assoc]
        exact FsAt.snoc (FsAt.tups (mut_tups (sT _ _ dD4)) (FsAt.tups (fun c zs e => sT _ _ e) fD4)) (mut_tups (sT _ _ dD4) _ _ hT1) ((tq2.same sT).tups (mut_tups (sT _ _ dD4)))
    · refine iteN (fun z => c (V.str.inj z)) ⟨_, rfl, ?_⟩
      refine ⟨_, _, rfl, rfl, sz4 (by rw [len_app, dot_len]; omega), ?_⟩
      refine ⟨_, rfl, (by show 2 ≤ sizeLine; decide), fun T1 nT1 => ?_⟩
      have sT := same_upd (o := .tup [.str (down m.1 n.1), q2]) nT1
      refine absH fun H5 e5 => ?_
      have e5 : H5 = upd H4 T1 (.tup [.str (down m.1 n.1), q2]) := e5.trans (by unfold down; rw [if_neg c])
      rw [← e5] at sT
      have hT1 : H5 T1 = some (.tup [.str (down m.1 n.1), q2]) := by rw [e5]; exact upd_same
      clear e5
      refine ⟨D, _, _, rfl, rfl, sT _ _ dD4, sz6 (by rw [lnF fD4, List.length_append]; have u1 := upto_len t i; have u2 := List.length_take_le' j (sub1 m); have : (sub1 m).length ≤ 1 + m.2.size := (by unfold sub1; rw [List.length_map]; show (fp m.2).length + 1 ≤ _; rw [fp_len]; omega); omega), ?_⟩
      refine ⟨_, _, _, rfl, same_mut (s4.trans sT) nDH, ?_, ?_, upd_same, ?_⟩
      · rw [upd_ne nD2]; exact sT _ _ dd4
      · exact FsAt.tups (t := .ofFields (paths m.2)) (mut_tups (sT _ _ dD4)) (FsAt.tups (t := .ofFields (paths m.2)) (fun c zs e => sT _ _ e) ff4)
      · have e6 : (sub1 m).take (j + 1) = (sub1 m).take j ++ [(down m.1 n.1, n.2)] := by
          rw [List.take_add_one]
          have : (sub1 m)[j]? = some (down m.1 n.1, n.2) := by unfold sub1; rw [List.getElem?_map, hn]; rfl
          rw [this]
          rfl
        rw [e6, ← List.append_assoc]
        exact FsAt.snoc (FsAt.tups (mut_tups (sT _ _ dD4)) (FsAt.tups (fun c zs e => sT _ _ e) fD4)) (mut_tups (sT _ _ dD4) _ _ hT1) ((tq2.same sT).tups (mut_tups (sT _ _ dD4)))
end
end Lx

namespace Uh
open PySem PySem.Spec PyProof.Rows L2 Ub
def eqb (k : Bool) (v : Value) : Bool := match v with
  | .bool b => b == k
  | _ => false
theorem eqb_at {k : Bool} {A : Around} {s : Shared} : ∀ {bs : List Bool} {us : List Value}, Vals (bs.map V.bl) us → (∀ y ∈ us, SeqAt.EqAt A s y (.bool k) (eqb k y)) ∧ us.countP (eqb k) = bs.count k
  | [], us, r => by
    cases r
    exact ⟨(fun y hy => nomatch hy), rfl⟩
  | b :: bs, us, r => by
    cases r with
    | @cons _ u _ ur r1 r2 =>
      obtain rfl : u = Value.bool b := r1
      obtain ⟨h1, h2⟩ := eqb_at (k := k) (A := A) (s := s) r2
      refine ⟨fun y hy => ?_, ?_⟩
      · rcases List.mem_cons.mp hy with e | hy
        · rw [e]
          exact SeqAt.EqAt.bool_bool b k
        · exact h1 y hy
      · rw [List.countP_cons, List.count_cons, h2]
        rfl
def rCntB (K : PySem.W.Frag) : V → List V → Hp → VK → Prop := fun x xs H Q => ∃ (p : Addr) (bs : List Bool) (k : Bool), x = .ref p ∧ xs = [.bl k] ∧ SqL K H p (bs.map V.bl) ∧ Q (.int (bs.count k : Nat)) H
theorem mt_countB {X : Cx} : MtR X "list.count" (rCntB X.K) := by
  intro pins s σ H x xs v us Q I rx rxs h
  obtain ⟨p, bs, k, rfl, rfl, hs, q⟩ := h
  cases rx
  obtain ⟨u, rfl, ru⟩ := rxs.one
  obtain rfl : u = Value.bool k := ru
  obtain ⟨its, rv, ⟨⟨cls, dd, data, sl⟩, n, ho, hc, hdn, hd⟩, hlen⟩ := I.list hs
  simp only at hc hd
  subst hc hd
  refine call_meets PySem.F.slot_list_count ⟨_, ho, rfl⟩ PySem.F.entry_list_count (PySem.F.args_list_count_2 _ _)
    (SeqAt.list_countAt p its.toArray n dd sl (.bool k) (eqb k)) ⟨ho, fun y hy => (eqb_at rv).1 y (by simpa using hy), ?_⟩
  have ec : its.toArray.toList.countP (eqb k) = bs.count k := (eqb_at (A := X.A) (s := s) rv).2
  refine ⟨.int (bs.count k : Nat), H, I.tok _, ⟨s.toks, ?_⟩, q⟩
  rw [← ec]
end Uh

namespace Rw
open PySem PySem.Spec PyProof.Rows L2 Ub Ur Ug Ue Up Uo Ve Va Vk
theorem mt_countBK (K : PySem.W.Frag) {X : Cx} (e : X.K = K := by rfl) : MtR X "list.count" (Uh.rCntB K) := e ▸ Uh.mt_countB
/-! ### what stays through the law's draws -/
theorem LsN.st {H : Hp} {st g l : Addr} (S : StAt H st g l) : LsN [st, g, l] H := fun n hn => by
  obtain ⟨⟨gs, ls, c, a, h1, h2, h3, _⟩, _⟩ := S
  simp only [List.mem_cons, List.not_mem_nil, or_false] at hn
  rcases hn with rfl | rfl | rfl
  · exact ⟨_, h1, .inl ⟨_, rfl⟩⟩
  · exact ⟨_, h2, .inl ⟨_, rfl⟩⟩
  · exact ⟨_, h3, .inl ⟨_, rfl⟩⟩
theorem kn_st {H H' : Hp} {st g l : Addr} (k : Kp st g l H H') : Kn [st, g, l] H H' := Kn.kp k (by simp) (by simp) (by simp)
theorem ShN.kn {N : List Addr} {H H' : Hp} {C x : Addr} {g : Sg} (h : ShG (fun b => b ∉ N) C H x g) (l : LsN N H) (k : Kn N H H') : ShG (fun b => b ∉ N) C H' x g := hold_sh h l.tup H' k
theorem ShN.new {N M : List Addr} {H : Hp} {C x : Addr} {g : Sg} (h : ShG (fun b => b ∉ N) C H x g) (n : ∀ b ∈ M, b ∈ N ∨ H b = none) : ShG (fun b => b ∉ M) C H x g := h.imp fun b hb e hm => by
  rcases n b hm with z | z
  · exact hb z
  · exact e z
/-- places that did not exist may change, too -/
theorem UpAt.new {N M : List Addr} {K : PySem.W.Frag} {H : Hp} {u sh : Addr} {g : Sg} {ps : Prs} {zs : List Str} (h : UpAt N K H u sh g ps zs) (n : ∀ b ∈ M, b ∈ N ∨ H b = none) : UpAt M K H u sh g ps zs := by
  have m : ∀ b, b ∉ N → H b ≠ none → b ∉ M := fun b hb e hm => by
    rcases n b hm with z | z
    · exact hb z
    · exact e z
  obtain ⟨dx, pv, rs, ks, ws, h1, h2, h3, h4, h5, h6, h7, h8, h9⟩ := h
  refine ⟨dx, pv, rs, ks, ws, h1, m _ h2 (by rw [h1]; simp), ?_, h4, m _ h5 (by rw [h4]; simp), h6.keep (fun b o e _ => e) m, h7.keep (fun _ _ _ _ e _ => e) (fun _ _ e _ => e) m, h8.imp m, h9⟩
  exact h3.far fun b o e hb => m b hb (by rw [e]; simp)
/-! ### the other updates -/
def zzT : Tr := .cons "zz" (.cons "z" .nil .nil) .nil
theorem zz_shape : shapeOf "{zz: {z: .}}" = some zzT := by
  have : (shapeOf "{zz: {z: .}}").isSome = true := by decide +kernel
  have e : zzT.text = "{zz: {z: .}}" := by decide +kernel
  obtain ⟨t, ht⟩ := Option.isSome_iff_exists.mp this
  obtain ⟨g, hz⟩ := shapeOf_out ht
  rw [ht]
  have h1 := shapeOf_in g
  have hs : scanS 3 (cs "{zz: {z: .}}") = some (zzT, []) := by rfl
  unfold shapeOf at ht
  rw [hs] at ht
  dsimp only at ht
  split at ht
  · exact ht.symm
  · cases ht
theorem zz_good : good zzT := (shapeOf_out zz_shape).1
theorem zz_text : zzT.text = "{zz: {z: .}}" := (shapeOf_out zz_shape).2.symm
theorem zz_ne {t : Tr} (gd : good t) (h : 2 ≤ t.fields.length) : t.text ≠ zzT.text := fun e => by
  have h1 := shapeOf_in gd
  rw [e, shapeOf_in zz_good] at h1
  have : zzT = t := Option.some.inj h1
  rw [← this] at h
  exact absurd h (by decide)
/-- how the law tells updates apart -/
abbrev Tri := Str × Prs × List Str
def othersM (tx : Str) (row : Str) : List Tri := [(tx, [("z", ".")], []), (tx, [], ["then"]), (tx, [], [row]), (zzT.text, [], []), (tx, [("y", ".")], [])]
theorem others_nd {tx row : Str} (h1 : tx ≠ zzT.text) (h2 : row ≠ "then") : (othersM tx row).Nodup ∧ (tx, ([] : Prs), ([] : List Str)) ∉ othersM tx row := by
  have zy : ("z" : Str) ≠ "y" := by decide +kernel
  refine ⟨?_, ?_⟩
  · simp [othersM, List.nodup_cons, h1, h2, Ne.symm h2, zy]
  · simp [othersM, h1]
theorem count_eq {α : Type} [DecidableEq α] {l : List α} (nd : l.Nodup) {i : Nat} {x : α} (h : l[i]? = some x) : (l.map fun y => decide (x = y)).count true = 1 := by
  induction l generalizing i with
  | nil => simp at h
  | cons y l ih =>
    rw [List.nodup_cons] at nd
    rw [List.map_cons, List.count_cons]
    cases i with
    | zero =>
      have e : y = x := by simpa using h
      subst e
      have : (l.map fun z => decide (y = z)).count true = 0 := by
        rw [List.count_eq_zero]
        intro hm
        obtain ⟨z, hz, e⟩ := List.mem_map.mp hm
        exact nd.1 (by rw [of_decide_eq_true e]; exact hz)
      rw [this, decide_eq_true rfl]
      rfl
    | succ i =>
      have h : l[i]? = some x := by simpa using h
      rw [ih nd.2 h]
      have : x ≠ y := fun e => nd.1 (by rw [← e]; exact List.mem_of_getElem? h)
      rw [decide_eq_false this]
      rfl
theorem pars_mk {N : List Addr} {H : Hp} {pt : Addr} {ts : List Addr} {r : List (Str × Tr)} (ls : LsN N H) (e : H pt = some (.tup (ts.map V.ref))) (hl : ts.length = r.length) (h : ∀ (k : Nat) (p : Addr) (m : Str × Tr), ts[k]? = some p → r[k]? = some m → H p = some (.tup [.str m.1, .str m.2.text])) : DtV N H (.ref pt) (parsD (txts r)) := by
  refine .tup e (ls.tup _ _ e) ?_
  clear e
  induction ts generalizing r with
  | nil =>
    cases r with
    | nil => exact .nil
    | cons m r => simp at hl
  | cons p ts ih =>
    cases r with
    | nil => simp at hl
    | cons m r =>
      have e0 := h 0 p m rfl rfl
      exact .cons (.tup e0 (ls.tup _ _ e0) (.cons (.str _) (.cons (.str _) .nil))) (ih (by simpa using hl) fun k p' m' h1 h2 => h (k + 1) p' m' (by simpa using h1) (by simpa using h2))
theorem kp_same {st g l : Addr} {H H' H'' : Hp} (k : Kp st g l H H') (s : Same H' H'') : Kp st g l H H'' := k.trans (Kp.of s)
theorem up_eq {N N' : List Addr} {K : PySem.W.Frag} {H : Hp} {u u' sh sh' : Addr} {g g' : Sg} {ps ps' : Prs} {zs zs' : List Str} {E : XK} {gb : Bool → Bool} {Q : VK} (up : UpAt N K H u sh g ps zs) (up' : UpAt N' K H u' sh' g' ps' zs') (q : Q (.bl (gb (decide (g.tr.text = g'.tr.text ∧ ps = ps' ∧ zs = zs')))) H) : rEqO (He.ga K "Update") (sp_ueq K) E gb (.ref u) (.ref u') H Q := by
  obtain ⟨dx, _, _, _, _, h1, _⟩ := id up
  obtain ⟨dx', _, _, _, _, h1', _⟩ := id up'
  exact ⟨u, dx, _, rfl, h1, .ins h1', N, u, sh, g, ps, zs, _, rfl, up, .inl ⟨N', u', sh', g', ps', zs', rfl, up', _, rfl, q⟩⟩
theorem up_eqS {N : List Addr} {K : PySem.W.Frag} {H : Hp} {u sh : Addr} {g : Sg} {ps : Prs} {zs : List Str} {E : XK} {gb : Bool → Bool} {Q : VK} {z : Str} (up : UpAt N K H u sh g ps zs) (k : PySem.W.kitOne K (.type "str") (.ref (He.ga K "Update")) = some false) (q : Q (.bl (gb false)) H) : rEqO (He.ga K "Update") (sp_ueq K) E gb (.ref u) (.str z) H Q := by
  obtain ⟨dx, _, _, _, _, h1, _⟩ := id up
  exact ⟨u, dx, _, rfl, h1, ⟨_, .str z, .inl (by simp [kinds0])⟩, N, u, sh, g, ps, zs, _, rfl, up, .inr ⟨"str", .base (.str _), k, _, rfl, q⟩⟩
theorem LsN.cons {N : List Addr} {H : Hp} {D : Addr} {xs : List V} (e : H D = some (.lst xs)) (l : LsN N H) : LsN (D :: N) H := fun n hn => by
  rcases List.mem_cons.mp hn with rfl | hn
  · exact ⟨_, e, .inl ⟨_, rfl⟩⟩
  · exact l n hn
/-- an update beside others -/
abbrev Ob := Addr × Addr × Sg × Prs × List Str
def OAt (N : List Addr) (K : PySem.W.Frag) (H : Hp) (m : Ob) : Prop := UpAt N K H m.1 m.2.1 m.2.2.1 m.2.2.2.1 m.2.2.2.2
def okey (m : Ob) : Tri := (m.2.2.1.tr.text, m.2.2.2.1, m.2.2.2.2)
theorem dec_key (m n : Ob) : decide (m.2.2.1.tr.text = n.2.2.1.tr.text ∧ m.2.2.2.1 = n.2.2.2.1 ∧ m.2.2.2.2 = n.2.2.2.2) = decide (okey m = okey n) := by
  unfold okey
  simp only [Prod.mk.injEq]
theorem nil_pars {N : List Addr} {H : Hp} {e : Addr} (l : LsN N H) (h : H e = some (.tup [])) : DtV N H (.ref e) (parsD []) := .tup h (l.tup _ _ h) .nil
theorem one_pars {N : List Addr} {H : Hp} {e c : Addr} {w z : Str} (l : LsN N H) (h : H e = some (.tup [.ref c])) (h2 : H c = some (.tup [.str w, .str z])) : DtV N H (.ref e) (parsD [(w, z)]) := .tup h (l.tup _ _ h) (.cons (.tup h2 (l.tup _ _ h2) (.cons (.str _) (.cons (.str _) .nil))) .nil)
theorem areP_nil : areP (parsD []) = true := rfl
theorem areP_z : areP (parsD [("z", ".")]) = true := by decide +kernel
theorem areP_y : areP (parsD [("y", ".")]) = true := by decide +kernel
theorem fit_then {t : Tr} {ps : Prs} : badAt t ps [] (([("then" : Str)]).map some) 0 = none := by
  refine rows_fit (fun z hz => .inl (by simpa using hz)) (by decide +kernel) (by decide +kernel)
theorem psOk_nil : PsOk [] := ⟨Nat.zero_le _, Nat.zero_le _, (fun _ h => nomatch h), List.nodup_nil⟩
abbrev newT (p : Str) : Str := "new " ++ p ++ " = old " ++ p
theorem newT_eq (p : Str) : newT p = rowT ("new", p, "old", p) := by
  have e1 : ("new " : Str) = "new" ++ " " := by decide +kernel
  have e2 : (" = old " : Str) = " = " ++ ("old" ++ " ") := by decide +kernel
  show ("new " : Str) ++ p ++ " = old " ++ p = ("new" : Str) ++ " " ++ p ++ " = " ++ (if ("old" : Str) = "old" ∨ ("old" : Str) = "copy" then ("old" : Str) ++ " " else "") ++ p
  rw [if_pos (.inl rfl), e1, e2]
  exact str_inj (by simp only [cs_app, List.append_assoc])
theorem fit_new {t : Tr} {p : Str} {u : Tr} (gd : good t) (h : (p, u) ∈ fp t) : badAt t [] [] (([newT p]).map some) 0 = none ∧ newT p ≠ "then" := by
  have hr : RowOk t [] ("new", p, "old", p) := ⟨(show ("new" : Str) ∈ marks by decide +kernel), u, h, .inr ⟨.inr (.inl rfl), h⟩⟩
  have e := row_drawn gd psOk_nil hr
  rw [← newT_eq] at e
  have e : rowM t [] (newT p) = some (("new" : Str), p, ("old" : Str), p) := e
  have hn : newT p ≠ "then" := fun z => by
    have h61 : 61 ∈ cs (newT p) := by
      show 61 ∈ cs ("new " ++ p ++ " = old " ++ p)
      rw [cs_app, cs_app]
      exact List.mem_append_left _ (List.mem_append_right _ (by decide +kernel))
    rw [z] at h61
    exact absurd h61 (by decide +kernel)
  refine ⟨rows_fit (fun z hz => .inr ?_) ?_ ?_, hn⟩
  · have : z = newT p := by simpa using hz
    rw [this, e]
    rfl
  · show thensM ([] ++ [newT p]) ≤ 3
    rw [thens_snoc, if_neg hn]
    decide
  · show ([] ++ [newT p]).length ≤ thensM ([] ++ [newT p]) + 8
    exact Nat.le_trans (by show 1 ≤ 8; decide) (Nat.le_add_left _ _)
theorem LsN.mut {N : List Addr} {H : Hp} {D : Addr} {xs : List V} (l : LsN N H) : LsN N (upd H D (.lst xs)) := fun n hn => by
  by_cases e : n = D
  · rw [e]
    exact ⟨_, upd_same, .inl ⟨_, rfl⟩⟩
  · obtain ⟨o, h, k⟩ := l n hn
    exact ⟨o, by rw [upd_ne e]; exact h, k⟩
theorem ShN.mut {N : List Addr} {H : Hp} {C x D : Addr} {g : Sg} {o : HO} (h : ShG (fun b => b ∉ N) C H x g) (l : LsN N H) (hD : D ∈ N) : ShG (fun b => b ∉ N) C (upd H D o) x g := ShN.kn h l (Kn.upd hD)
theorem UpAt.mut {N : List Addr} {K : PySem.W.Frag} {H : Hp} {u sh D : Addr} {g : Sg} {ps : Prs} {zs : List Str} {o : HO} (h : UpAt N K H u sh g ps zs) (l : LsN N H) (hD : D ∈ N) : UpAt N K (upd H D o) u sh g ps zs := h.kn l (Kn.upd hD)
end Rw

namespace Lx
open PySem PySem.Spec PyProof.Rows L2 Ub Ur Ug Ue Up Uo Ve Va Vk Rw
section
variable {P : Program} {w : World} {K : PySem.W.Frag} {mg : Str → Option Value} {base : Heap}
theorem sc_law : FnScope ["_law_script", "_law_state", "_law_tree_here", "_law_paths_here", "_law_shape", "_law_drawn", "_law_rows_here", "_law_parameters_here", "_law_made", "_law_one", "_law_bare", "_law_path", "_law_others", "_law_at", "_law_below", "_law_row_here", "_law_word_here", "_law_other"] ["_law_script"] (defScope s_law) := ⟨rfl, rfl, rfl, by decide +kernel, rfl, by decide +kernel, by decide +kernel⟩
def sp_law (K : PySem.W.Frag) : Sp := fun vs H Q _ => ∃ (a : Addr) (ns : List Int), vs = [.ref a] ∧ SqL K H a (ns.map V.int) ∧ ns.length ≤ 63 ∧ ∀ H', Q (.bl true) H'
theorem ok_law {f : Addr} {fd : FuncData} (F : FunD K "law" "law" (defArgs s_law) (defBody s_law) (defScope s_law) [] [] f fd) (T : Tx K mg)
    (c_law_start : Cal P w K mg base 1 "_law_start" ["_law_script"] (sp_start K)) (c_law_made_shape : Cal P w K mg base 9 "_law_made_shape" ["_law_state", "_law_least"] sp_mshape) (c_law_paths : Cal P w K mg base 4 "_law_paths" ["_law_tree_here"] (sp_lpaths 4)) (c_law_text : Cal P w K mg base 4 "_law_text" ["_law_tree_here"] (sp_tree 4 fun t => .str t.text))
    (m_Shape : CalM P w K mg base 16 "Shape" (He.ga K "Shape") ["self", "text"] (sp_shape K (He.ga K "Shape") (He.ga K "BadShape") 4)) (m_Update : CalR P w K mg base 18 "Update" (He.ga K "Update") (SpU K)) (k_Update_eq : CalK P w K mg base CX0 3 (He.ga K "Update") "__eq__" ["self", "other"] (sp_ueq K)) (k_Update_str : CalK P w K mg base CX0 1 (He.ga K "Update") "__str__" ["self"] (sp_ustr K))
    (c_law_parameters : Cal P w K mg base 5 "_law_parameters" ["_law_state", "_law_trees"] sp_lpars) (c_law_rows : Cal P w K mg base 4 "_law_rows" ["_law_state", "_law_paths_here", "_law_parameters_here", "_law_most"] sp_lrows) (c_law_row_text : Cal P w K mg base 1 "_law_row_text" ["_law_row_here"] sp_rtext) (c_law_update : Cal P w K mg base 21 "_law_update" ["_law_shape", "_law_parameters_here", "_law_rows_here"] (sp_lupd K)) (c_law_right : Cal P w K mg base 18 "_law_right" ["_law_made", "_law_shape", "_law_parameters_here", "_law_rows_here"] (sp_lright K)) :
    FnG P w K mg base CX0 22 f fd ["_law_script"] (sp_law K) := by
  refine okG F sc_law (fun vs H Q E h => ?_) (fun cdv A outer s H vs Q E hG hr h => ?_)
  · obtain ⟨a, ns, rfl, _⟩ := h
    rfl
  obtain ⟨a, ns, rfl, hS, hl, q⟩ := h
  refine ⟨_, PSs.nox (pss_cons (ps_set (i := 1) sc_law.nd rfl (by first | exact Or.inl rfl | exact Or.inr rfl) (pe_cal c_law_start (hr.mono (by omega)) (by rfl) (pa_cons (pv 0) pa_nil)))
      (pss_cons (ps_set (i := 2) sc_law.nd rfl (by first | exact Or.inl rfl | exact Or.inr rfl) (pe_cal c_law_made_shape (hr.mono (by omega)) (by rfl) (pa_cons (pv 1) (pa_cons pe_int pa_nil))))
      (pss_cons (ps_set (i := 3) sc_law.nd rfl (by first | exact Or.inl rfl | exact Or.inr rfl) (pe_cal c_law_paths (hr.mono (by omega)) (by rfl) (pa_cons (pv 2) pa_nil)))
      (pss_cons (ps_set (i := 4) sc_law.nd rfl (by first | exact Or.inl rfl | exact Or.inr rfl) (pe_makeS m_Shape (fun _ => passE0) (hr.mono (by omega)) (by rfl) (pa_cons (pe_cal c_law_text (hr.mono (by omega)) (by rfl) (pa_cons (pv 2) pa_nil)) pa_nil)))
      (pss_cons (ps_set (i := 5) sc_law.nd rfl (by first | exact Or.inl rfl | exact Or.inr rfl) (pe_cal c_law_parameters (hr.mono (by omega)) (by rfl) (pa_cons (pv 1) (pa_cons (pe_lc (own := [("_law_path", 11), ("_law_below", 14)]) (by rfl) sc_law.nd (pi_listK K (pv 3)) (blkOk_by (N := ["_law_script", "_law_state", "_law_tree_here", "_law_paths_here", "_law_shape", "_law_drawn", "_law_rows_here", "_law_parameters_here", "_law_made", "_law_one", "_law_bare", "_law_path", "_law_others", "_law_at", "_law_below", "_law_row_here", "_law_word_here", "_law_other"]) (sc := (defScope s_law)) (by decide +kernel)) (fun _ _ _ _ _ => (pg_tupK K (n := 2) rfl (pgs_cons (pg_name (i := 11) sc_law.nd rfl (by first | exact Or.inl rfl | exact Or.inr rfl)) (pgs_cons (pg_name (i := 14) sc_law.nd rfl (by first | exact Or.inl rfl | exact Or.inr rfl)) pgs_nil)))) (fun _ _ _ _ _ => pts_nil) (fun _ _ _ _ _ => (pv 14))) pa_nil))))
      (pss_cons (ps_setLc (i := 6) (own := [("_law_row_here", 15)]) (by rfl) sc_law.nd rfl rfl (sw_true rfl rfl rfl (by decide +kernel)) (pi_listK K (pe_cal c_law_rows (hr.mono (by omega)) (by rfl) (pa_cons (pv 1) (pa_cons (pv 3) (pa_cons (pv 5) (pa_cons pe_int pa_nil)))))) (blkOk_by (N := ["_law_script", "_law_state", "_law_tree_here", "_law_paths_here", "_law_shape", "_law_drawn", "_law_rows_here", "_law_parameters_here", "_law_made", "_law_one", "_law_bare", "_law_path", "_law_others", "_law_at", "_law_below", "_law_row_here", "_law_word_here", "_law_other"]) (sc := (defScope s_law)) (by decide +kernel)) (fun _ _ _ _ _ => (pg_name (i := 15) sc_law.nd rfl (by first | exact Or.inl rfl | exact Or.inr rfl))) (fun _ _ _ _ _ => pts_nil) (fun _ _ _ _ _ => (pe_cal c_law_row_text (hr.mono (by omega)) (by rfl) (pa_cons (pv 15) pa_nil))))
      (pss_cons (ps_set (i := 7) sc_law.nd rfl (by first | exact Or.inl rfl | exact Or.inr rfl) (pe_callTy (call_tuple_ofK K) (by rfl) T.tuple (by decide +kernel) (pa_cons (pe_lc (own := [("_law_word_here", 16), ("_law_below", 14)]) (by rfl) sc_law.nd (pi_listK K (pv 5)) (blkOk_by (N := ["_law_script", "_law_state", "_law_tree_here", "_law_paths_here", "_law_shape", "_law_drawn", "_law_rows_here", "_law_parameters_here", "_law_made", "_law_one", "_law_bare", "_law_path", "_law_others", "_law_at", "_law_below", "_law_row_here", "_law_word_here", "_law_other"]) (sc := (defScope s_law)) (by decide +kernel)) (fun _ _ _ _ _ => (pg_tupK K (n := 2) rfl (pgs_cons (pg_name (i := 16) sc_law.nd rfl (by first | exact Or.inl rfl | exact Or.inr rfl)) (pgs_cons (pg_name (i := 14) sc_law.nd rfl (by first | exact Or.inl rfl | exact Or.inr rfl)) pgs_nil)))) (fun _ _ _ _ _ => pts_nil) (fun _ _ _ _ _ => (pe_tup (pa_cons (pv 16) (pa_cons (pe_cal c_law_text (hr.mono (by omega)) (by rfl) (pa_cons (pv 14) pa_nil)) pa_nil))))) pa_nil)))
      (pss_cons (ps_set (i := 8) sc_law.nd rfl (by first | exact Or.inl rfl | exact Or.inr rfl) (pe_cal c_law_update (hr.mono (by omega)) (by rfl) (pa_cons (pv 4) (pa_cons (pv 7) (pa_cons (pv 6) pa_nil)))))
      (pss_cons (ps_for PassesOwn.never rfl (pi_listK K (pv 8)) (pg_name (i := 9) sc_law.nd rfl (by first | exact Or.inl rfl | exact Or.inr rfl))
        (pss_one (ps_if (pt_not (pt_val (pe_cal c_law_right (hr.mono (by omega)) (by rfl) (pa_cons (pv 9) (pa_cons (pv 4) (pa_cons (pv 7) (pa_cons (pv 6) pa_nil)))))))
            (pss_one (ps_ret pe_bl))
            pss_nil)))
      (pss_cons (ps_if (PW.pt (pw_or (pt_cmpR (op_neO k_Update_eq T.nfU T.nnU (E := E0) (fun _ => pas0) (hr.mono (by omega)) (units4 hr)) (pe_ix (ix_listK K) (pv 8) pe_int (fun _ _ => rfl)) (pe_ix (ix_listK K) (pv 8) pe_int (fun _ _ => rfl)) (nomark _)) (pw_or (pt_not (pt_cmpR (op_eqO k_Update_eq T.nfU (E := E0) (fun _ => pas0) (hr.mono (by omega)) hr.units0) (pe_ix (ix_listK K) (pv 8) pe_int (fun _ _ => rfl)) (pe_ix (ix_listK K) (pv 8) pe_int (fun _ _ => rfl)) (nomark _))) (pw_or1 (pt_cmpR (op_eqO k_Update_eq T.nfU (E := E0) (fun _ => pas0) (hr.mono (by omega)) hr.units0) (pe_ix (ix_listK K) (pv 8) pe_int (fun _ _ => rfl)) (pe_callTy (call_strO k_Update_str (E := E0) (fun _ => pas0) (hr.mono (by omega)) (units4 hr)) (by rfl) T.str (by decide +kernel) (pa_cons (pe_ix (ix_listK K) (pv 8) pe_int (fun _ _ => rfl)) pa_nil)) (nomark _))))))
        (pss_one (ps_ret pe_bl))
        pss_nil)
      (pss_cons (ps_set (i := 10) sc_law.nd rfl (by first | exact Or.inl rfl | exact Or.inr rfl) (pe_makeRS m_Update (fun _ => passE0) (hr.mono (by omega)) (by rfl) (pa_cons (pv 4) (pa_cons (pe_tup pa_nil) pa_nil))))
      (pss_cons (ps_set (i := 11) sc_law.nd rfl (by first | exact Or.inl rfl | exact Or.inr rfl) (pe_ix (ix_tupK K) (pe_ix (ix_listK K) (pv 3) pe_int (fun _ _ => rfl)) pe_int (fun _ _ => rfl)))
      (pss_cons (ps_set (i := 12) sc_law.nd rfl (by first | exact Or.inl rfl | exact Or.inr rfl) (pe_lst (pa_cons (pe_makeRS m_Update (fun _ => passE0) (hr.mono (by omega)) (by rfl) (pa_cons (pv 4) (pa_cons (pe_tup (pa_cons (pe_tup (pa_cons pe_str (pa_cons pe_str pa_nil))) pa_nil)) pa_nil))) (pa_cons (pe_makeRS m_Update (fun _ => passE0) (hr.mono (by omega)) (by rfl) (pa_cons (pv 4) (pa_cons (pe_tup pa_nil) (pa_cons pe_str pa_nil)))) pa_nil))))
      (pss_cons (ps_expr (pe_bmK K PySem.F.plainAttrs_list PySem.F.slot_list_append PySem.F.type_list_append mt_append (pv 12) (pa_cons (pe_makeRS m_Update (fun _ => passE0) (hr.mono (by omega)) (by rfl) (pa_cons (pv 4) (pa_cons (pe_tup pa_nil) (pa_cons (pe_op op_add_str (pe_op op_add_str (pe_op op_add_str pe_str (pv 11)) pe_str) (pv 11)) pa_nil)))) pa_nil)))
      (pss_cons (ps_expr (pe_bmK K PySem.F.plainAttrs_list PySem.F.slot_list_append PySem.F.type_list_append mt_append (pv 12) (pa_cons (pe_makeRS m_Update (fun _ => passE0) (hr.mono (by omega)) (by rfl) (pa_cons (pe_makeS m_Shape (fun _ => passE0) (hr.mono (by omega)) (by rfl) (pa_cons pe_str pa_nil)) (pa_cons (pe_tup pa_nil) pa_nil))) pa_nil)))
      (pss_cons (ps_expr (pe_bmK K PySem.F.plainAttrs_list PySem.F.slot_list_append PySem.F.type_list_append mt_append (pv 12) (pa_cons (pe_makeRS m_Update (fun _ => passE0) (hr.mono (by omega)) (by rfl) (pa_cons (pv 4) (pa_cons (pe_tup (pa_cons (pe_tup (pa_cons pe_str (pa_cons pe_str pa_nil))) pa_nil)) pa_nil))) pa_nil)))
      (pss_cons (ps_for PassesOwn.never rfl (pi_enumK K (by rfl) T.enumerate (pa_cons (pv 12) pa_nil)) (pg_tupK K (n := 2) rfl (pgs_cons (pg_name (i := 13) sc_law.nd rfl (by first | exact Or.inl rfl | exact Or.inr rfl)) (pgs_cons (pg_name (i := 9) sc_law.nd rfl (by first | exact Or.inl rfl | exact Or.inr rfl)) pgs_nil)))
        (pss_cons (ps_if (PW.pt (pw_or (pt_cmpR (op_eqO k_Update_eq T.nfU (E := E0) (fun _ => pas0) (hr.mono (by omega)) hr.units0) (pv 9) (pv 10) (nomark _)) (pw_or1 (pt_cmpR op_ne (pe_bmK K PySem.F.plainAttrs_list PySem.F.slot_list_count PySem.F.type_list_count (mt_countBK K) (pe_lc (own := [("_law_other", 17)]) (by rfl) sc_law.nd (pi_listK K (pv 12)) (blkOk_by (N := ["_law_script", "_law_state", "_law_tree_here", "_law_paths_here", "_law_shape", "_law_drawn", "_law_rows_here", "_law_parameters_here", "_law_made", "_law_one", "_law_bare", "_law_path", "_law_others", "_law_at", "_law_below", "_law_row_here", "_law_word_here", "_law_other"]) (sc := (defScope s_law)) (by decide +kernel)) (fun _ _ _ _ _ => (pg_name (i := 17) sc_law.nd rfl (by first | exact Or.inl rfl | exact Or.inr rfl))) (fun _ _ _ _ _ => pts_nil) (fun _ _ _ _ _ => (pe_cmpR (op_eqO k_Update_eq T.nfU (E := E0) (fun _ => pas0) (hr.mono (by omega)) hr.units0) (pv 9) (pv 17) (nomark _)))) (pa_cons pe_bl pa_nil)) pe_int (nomark _)))))
            (pss_one (ps_ret pe_bl))
            pss_nil)
          (pss_one (ps_if (pt_cmpR (op_neO k_Update_eq T.nfU T.nnU (E := E0) (fun _ => pas0) (hr.mono (by omega)) (units4 hr)) (pv 9) (pe_ix (ix_listK K) (pv 12) (pv 13) (fun _ _ => rfl)) (nomark _))
            (pss_one (ps_ret pe_bl))
            pss_nil))))
      (pss_one (ps_ret (pe_and (pe_cmpR (op_eqDK K hr.units) (pe_globR (by rfl) T.g_MARKS_updates) (pe_tup (pa_cons pe_str (pa_cons pe_str (pa_cons pe_str (pa_cons pe_str pa_nil))))) (nomark _)) (pe_one (pe_cal c_law_right (hr.mono (by omega)) (by rfl) (pa_cons (pv 10) (pa_cons (pv 4) (pa_cons (pe_tup pa_nil) (pa_cons (pe_lst pa_nil) pa_nil)))))))))))))))))))))))))), ?_⟩
  refine ⟨_, rfl, a, ns, rfl, hS, hl, fun st g l H1 n1 n2 n3 S1 s1 => ?_⟩
  refine ⟨_, rfl, st, g, l, 2, rfl, by decide, by decide, S1, fun t v H2 gd hn hl2 ht S2 k2 => ?_⟩
  obtain ⟨t1, t2, t3⟩ := good_has gd
  -- paths
  refine ⟨_, rfl, t, v, rfl, ht, by omega, gd, fun Dp us H3 s3 nDp eDp hf3 => ?_⟩
  have S3 := S2.same s3
  obtain ⟨p1, p2, p3⟩ := S2.ne nDp
  -- the shape
  refine ⟨_, rfl, t, v, rfl, ht.same s3, by omega, by omega, t3, fun H4 s4 => ?_⟩
  intro x dx nx ndx nne
  have s5 : Same H4 (upd (upd H4 dx (.own x)) x (.ins (He.ga K "Shape") dx [])) := (same_upd ndx).trans (same_upd (by rw [upd_ne nne.symm]; exact nx))
  have hx : (upd (upd H4 dx (.own x)) x (.ins (He.ga K "Shape") dx [])) x = some (.ins (He.ga K "Shape") dx []) := upd_same
  have S4 := S3.same s4
  have S5 := S4.same s5
  obtain ⟨x1, x2, x3⟩ := S4.ne nx
  generalize upd (upd H4 dx (.own x)) x (.ins (He.ga K "Shape") dx []) = H5 at *
  refine ⟨x, _, dx, rfl, hx, .inl ⟨t, gd, by omega, rfl, fun gg H6 egg k6 sg => ⟨rfl, ?_⟩⟩⟩
  have s46 : Same H4 H6 := fun b o e => k6 b o (s5 b o e) (ne_of_none e nx)
  have S6 := S4.same s46
  have shN : ShG (fun b => b ∉ [st, g, l]) (He.ga K "Shape") H6 x gg := sg.imp fun b hb _ => by
    rcases hb with rfl | hb
    · exact (LsN.st S4).new nx
    · exact (LsN.st S5).new hb
  have s36 := s4.trans s46
  have eDp6 := s36 _ _ eDp
  have hf6 := hf3.same s36
  subst egg
  clear s46 s36 s5 s4 s3 sg k6 S3 S4 S5 hf3 eDp hx
  dsimp only [gName]
  have lus := lnF hf6
  have lpt : (paths gg.tr).length ≤ 40 := by
    have : (paths gg.tr).length = 1 + gg.tr.size := by show (fp gg.tr).length + 1 = _; rw [fp_len]; omega
    omega
  refine ⟨_, rfl, _, rfl, Dp, rfl, ⟨_, .inl (.inl eDp6)⟩, fun Dt nDt => ?_⟩
  refine lc_list (K := K) (a := Dp) (xs := us) (fun j HY => Same H6 HY ∧ ∃ po : List (V × Tr), HY Dt = some (.lst (po.map (·.1))) ∧ po.length = j ∧ ∀ m ∈ po, TrAt HY m.2 m.1 ∧ good m.2) ⟨same_upd nDt, [], upd_same, rfl, fun _ h => nomatch h⟩ (fun j HY hj p => .inl (.inl (p.1 _ _ eDp6))) (fun j y HY hy p => ?_) (fun HY p => ?_)
  · obtain ⟨sY, po, eD, la, ok2⟩ := p
    have hj : j < us.length := (List.getElem?_eq_some_iff.mp hy).1
    obtain ⟨m', hm', pm', tv', rfl, hpm', htv'⟩ := fs_mem hf6 (List.mem_of_getElem? hy)
    refine ⟨pm', _, rfl, .inl (.inl (sY _ _ hpm')), rfl, _, _, rfl, _, _, rfl, rfl, rfl, _, rfl, ?_⟩
    refine ⟨_, eD, Nat.lt_of_lt_of_le (show (po.map (·.1)).length < 1000 by rw [List.length_map]; omega) (by decide), same_mut sY nDt, po ++ [(tv', m'.2)], by rw [upd_same, List.map_append]; rfl, by rw [List.length_append, la]; rfl, fun m hm => ?_⟩
    rcases List.mem_append.mp hm with hm | hm
    · exact ⟨(ok2 m hm).1.tups (mut_tups eD), (ok2 m hm).2⟩
    · have : m = (tv', m'.2) := by simpa using hm
      rw [this]
      exact ⟨(htv'.same sY).tups (mut_tups eD), (paths_good 3 t1 gd m' hm').g⟩
  obtain ⟨sY, po0, eDt, la, ok0⟩ := p
  obtain ⟨b1, b2, b3⟩ := S6.ne nDt
  refine ⟨st, g, l, Dt, po0, rfl, eDt, ok0, by omega, S6.same sY, b1, b2, b3, fun Dw qs r H8 nDw eDw hfr ok _ S8 k8 => ?_⟩
  have k68 : Kp st g l H6 H8 := (Kp.of sY).trans k8
  have tup8 := kp_tups S6 k68
  obtain ⟨w1, w2, w3⟩ := (S6.same sY).ne nDw
  have eDp8 := k68 _ _ eDp6 p1 p2 p3
  have hf8 := hf6.tups tup8
  have sh8 := ShN.kn shN (LsN.st S6) (kn_st k68)
  clear eDt ok0 b1 b2 b3 nDt nDw la
  dsimp only [gName]
  -- rows
  refine ⟨_, rfl, _, rfl, _, rfl, st, g, l, Dp, Dw, gg.tr, us, qs, r, 8, rfl, by decide, eDp8, hf8, gd, hn, eDw, hfr, ok, S8, ⟨p1, p2, p3⟩, ⟨w1, w2, w3⟩, fun Dr po H9 nDr eDr hrow h3 hcnt S9 k9 => ?_⟩
  refine ⟨Dr, rfl, ⟨_, .inl (.inl eDr)⟩, fun Dz nDz => ?_⟩
  have lpo : po.length ≤ 11 := by omega
  refine lcM (walk_list (xs := po.map (·.1))) po (by simp) (fun m : V × Str => some (.str m.2)) (fun H s => s.seq (.inl (.inl eDr))) (sz5 (by rw [List.length_map]; omega)) nDz (fun j y m H' hy hm' s' => ?_) (fun H10 s10 e10 => ?_)
  · obtain rfl : y = m.1 := by
      rw [List.getElem?_map, hm'] at hy
      exact (Option.some.inj hy).symm
    intro Q1 Q0 h1 h0
    exact ⟨rfl, _, rfl, gg.tr, r, m.1, m.2, rfl, (hrow m (List.mem_of_getElem? hm')).tups (fun c xs e => s' _ _ e), gd, ok, fun H2 s2 => h1 _ _ rfl s2⟩
  have ez : (po.filterMap fun m : V × Str => some (V.str m.2)) = (po.map (·.2)).map V.str := by
    rw [List.filterMap_eq_map', List.map_map]
    rfl
  rw [ez] at e10
  have hrd : ∀ z : Str, z ∈ po.map (·.2) → z = ("then" : Str) ∨ (rowM gg.tr (txts r) z).isSome = true := fun z hz => by
    obtain ⟨m, hm, rfl⟩ := List.mem_map.mp hz
    exact (hrow m hm).reads gd ok
  have hb : badAt gg.tr (txts r) [] ((po.map (·.2)).map some) 0 = none := rows_fit hrd h3 (by simpa using hcnt)
  have lzs : (po.map (·.2)).length ≤ 11 := by rw [List.length_map]; exact lpo
  generalize po.map (·.2) = zs at *
  have k8t : Kp st g l H8 H10 := k9.trans (Kp.of s10)
  have S10 := S9.same s10
  have tup10 := kp_tups S8 k8t
  have eDp10 := k8t _ _ eDp8 p1 p2 p3
  have hf10 := hf8.tups tup10
  have eDw10 := k8t _ _ eDw w1 w2 w3
  have hfr10 := hfr.tups tup10
  have sh10 := ShN.kn sh8 (LsN.st S8) (kn_st k8t)
  clear hrd hrow eDr nDr h3 hcnt ez hf8 hfr sh8 eDp8 eDw hf6 eDp6 shN tup8 k68 k8 sY
  dsimp only [gName]
  -- parameters
  have lqs := lnF hfr10
  have l3 := ok.len
  refine ⟨_, rfl, Dw, rfl, ⟨_, .inl (.inl eDw10)⟩, fun Dq nDq => ?_⟩
  refine lc_list (K := K) (a := Dw) (xs := qs) (fun j HY => Same H10 HY ∧ ∃ ts : List Addr, HY Dq = some (.lst (ts.map V.ref)) ∧ ts.length = j ∧ ∀ (k : Nat) (p : Addr) (m : Str × Tr), ts[k]? = some p → r[k]? = some m → HY p = some (.tup [.str m.1, .str m.2.text])) ⟨same_upd nDq, [], upd_same, rfl, fun k p m h => by simp at h⟩ (fun j HY hj p => .inl (.inl (p.1 _ _ eDw10))) (fun j y HY hy p => ?_) (fun HY p => ?_)
  · obtain ⟨sY, ts, eD, lt, ok2⟩ := p
    have hj : j < qs.length := (List.getElem?_eq_some_iff.mp hy).1
    obtain ⟨m, hm⟩ : ∃ m, r[j]? = some m := ⟨_, List.getElem?_eq_getElem (by omega)⟩
    obtain ⟨pm, qv, g1, g2, g3⟩ := hfr10.get (m := m) (by rw [Tr.fields_of]; exact hm)
    rw [g1] at hy
    cases hy
    have gm := (ok.ok m (List.mem_of_getElem? hm)).2
    obtain ⟨u1, u2, u3⟩ := good_has gm
    refine ⟨pm, _, rfl, .inl (.inl (sY _ _ g2)), rfl, _, _, rfl, _, _, rfl, rfl, rfl, ?_⟩
    refine ⟨_, rfl, _, rfl, m.2, _, rfl, g3.same sY, by omega, by omega, u3, fun H2 s2 => ⟨(by show 2 ≤ sizeLine; decide), fun b nb => ?_⟩⟩
    have sb := same_upd (o := .tup [.str m.1, .str m.2.text]) nb
    have eDb := sb _ _ (s2 _ _ eD)
    refine ⟨_, eDb, Nat.lt_of_lt_of_le (show (ts.map V.ref).length < 1000 by rw [List.length_map]; omega) (by decide), same_mut ((sY.trans s2).trans sb) nDq, ts ++ [b], by rw [upd_same, List.map_append]; rfl, by rw [List.length_append, lt]; rfl, fun k p m' h1 h2 => ?_⟩
    rcases Nat.lt_or_ge k j with hlt | hge
    · rw [List.getElem?_append_left (by omega)] at h1
      exact mut_tups eDb _ _ (sb _ _ (s2 _ _ (ok2 k p m' h1 h2)))
    · rw [List.getElem?_append_right (by omega)] at h1
      have hk : k - ts.length = 0 := by
        have := (List.getElem?_eq_some_iff.mp h1).1
        simpa using this
      have hk2 : k = j := by omega
      rw [hk] at h1
      rw [hk2, hm] at h2
      cases h1
      cases h2
      exact mut_tups eDb _ _ upd_same
  obtain ⟨sY, ts, eDq, lt, okq⟩ := p
  refine ⟨Dq, _, rfl, .inl ⟨.inl (.inl eDq), fun pt npt => ?_⟩⟩
  have spt := same_upd (o := .tup (ts.map V.ref)) npt
  have s1t := sY.trans spt
  have S12 := S10.same s1t
  have hp12 : DtV [st, g, l] (upd HY pt (.tup (ts.map V.ref))) (.ref pt) (parsD (txts r)) := pars_mk (LsN.st S12) upd_same (by omega) fun k p m h1 h2 => spt _ _ (okq k p m h1 h2)
  generalize upd HY pt (.tup (ts.map V.ref)) = H12 at *
  have eDp12 := s1t _ _ eDp10
  have hf12 := hf10.same s1t
  have eDz12 := s1t _ _ e10
  have sh12 := sh10.kz (kz_of s1t)
  clear okq eDq spt sY s1t npt nDq e10 eDp10 hf10 sh10 eDw10 hfr10 tup10 k8t k9 s10 lt
  dsimp only [gName]
  -- the updates
  have ls12 := LsN.st S12
  refine ⟨_, rfl, _, rfl, _, rfl, [st, g, l], x, gg, .ref pt, r, Dz, zs, rfl, ls12, sh12, gd, hp12, ok, eDz12, hb, fun Du u1 u2 H13 s13 nDu eDu up1 up2 => ?_⟩
  have ls13 := ls12.same s13
  refine ⟨_, rfl, Du, rfl, ⟨_, .inl (.inl eDu)⟩, ?_⟩
  refine for_it (walk_list (K := K) (a := Du) (xs := [.ref u1, .ref u2])) (fun i σ HH => ∃ y9 : Option V, σ = [some (.ref a), some (.ref st), some v, some (.ref Dp), some (.ref x), some (.ref Dw), some (.ref Dz), some (.ref pt), some (.ref Du), y9, none, none, none, none, none, none, none, none] ∧ Same H13 HH) ?_ (fun i σ HH _ pp => ?_) (fun i y σ HH HH' hi pp hy => ?_) (fun σ HH pp => ?_)
  · exact ⟨none, rfl, Same.refl _⟩
  · obtain ⟨_, _, sH⟩ := pp
    exact .inl (.inl (sH _ _ eDu))
  · obtain ⟨y9, rfl, sH⟩ := pp
    obtain ⟨rfl, hy⟩ := hy
    obtain ⟨u, rfl, upu⟩ : ∃ u, y = .ref u ∧ UpAt [st, g, l] K H13 u x gg (txts r) zs := by
      match i, hi with
      | 0, _ =>
        cases hy
        exact ⟨u1, rfl, up1⟩
      | 1, _ =>
        cases hy
        exact ⟨u2, rfl, up2⟩
    have s0H := s13.trans sH
    dsimp only [gName]
    refine ⟨_, rfl, _, rfl, _, rfl, _, rfl, [st, g, l], u, x, x, gg, gg, _, .ref pt, txts r, Dz, zs, rfl, upu.kn ls13 (Kn.of sH), sh12.kz (kz_of s0H), rfl, (hp12.same s0H).free, s0H _ _ eDz12, ls12.same s0H, fun H' s' => ⟨_, rfl, iteF ?_⟩⟩
    exact ⟨_, rfl, sH.trans s'⟩
  obtain ⟨y9, rfl, sH⟩ := pp
  have ls14 := ls13.same sH
  have up1 := up1.kn ls13 (Kn.of sH)
  have up2 := up2.kn ls13 (Kn.of sH)
  have eDu := sH _ _ eDu
  have s14 := s13.trans sH
  have sh14 := sh12.kz (kz_of s14)
  have eDp14 := s14 _ _ eDp12
  have hf14 := hf12.same s14
  have S14 := S12.same s14
  clear eDz12 hf12 sh12 sH s13 s14 hp12 eDp12 S12 ls12 ls13 nDu S10 S9 S8 S6 S2
  -- compared
  refine ⟨_, rfl, Du, _, 0, .ref u1, rfl, rfl, .inl (.inl eDu), at0, _, rfl, Du, _, 1, .ref u2, rfl, rfl, .inl (.inl eDu), rfl, ?_⟩
  refine up_eq up1 up2 ?_
  rw [decide_eq_true (show gg.tr.text = gg.tr.text ∧ txts r = txts r ∧ zs = zs from ⟨rfl, rfl, rfl⟩)]
  refine ⟨_, rfl, iteF ?_⟩
  refine ⟨_, rfl, Du, _, 0, .ref u1, rfl, rfl, .inl (.inl eDu), at0, _, rfl, Du, _, 1, .ref u2, rfl, rfl, .inl (.inl eDu), rfl, ?_⟩
  refine up_eq up1 up2 ?_
  rw [decide_eq_true (show gg.tr.text = gg.tr.text ∧ txts r = txts r ∧ zs = zs from ⟨rfl, rfl, rfl⟩)]
  refine ⟨_, rfl, iteF ?_⟩
  refine ⟨_, rfl, Du, _, 0, .ref u1, rfl, rfl, .inl (.inl eDu), at0, _, rfl, Du, _, 0, .ref u1, rfl, rfl, .inl (.inl eDu), at0, ?_⟩
  obtain ⟨dxu, _, _, _, _, hu1, _⟩ := id up1
  refine ⟨u1, dxu, _, rfl, hu1, [st, g, l], u1, x, gg, txts r, zs, rfl, up1, _, rfl, ?_⟩
  refine up_eqS up1 T.ku_str ?_
  refine ⟨_, rfl, iteF ?_⟩
  -- an update without anything
  refine ⟨_, rfl, Nat.zero_le _, fun e0 ne0 => ?_⟩
  have se0 := same_upd (o := .tup []) ne0
  have ee0 : (upd HH e0 (.tup [])) e0 = some (.tup []) := upd_same
  generalize upd HH e0 (.tup []) = J1 at *
  have lsJ1 := ls14.same se0
  have shJ1 := sh14.kz (kz_of se0)
  intro ub db nub ndb neb
  refine mkUx (ps := []) (zs := []) lsJ1 shJ1 gd (nil_pars lsJ1 ee0) areP_nil rfl nub ndb neb fun J2 sJ2 upb => ⟨rfl, ?_⟩
  have sj2 := se0.trans sJ2
  have eDp2 := sj2 _ _ eDp14
  have hf2 := hf14.same sj2
  have ls2 := ls14.same sj2
  have sh2 := sh14.kz (kz_of sj2)
  have S2 := S14.same sj2
  clear up1 up2 eDu hu1 se0 ee0 lsJ1 shJ1 sJ2 sj2 eDp14 hf14 ls14 sh14 S14 nub ndb ne0 neb
  dsimp only [gName]
  -- a path
  obtain ⟨m1, rest, efp⟩ : ∃ m1 rest, fp gg.tr = m1 :: rest := by
    cases e : fp gg.tr with
    | nil =>
      have := fp_len gg.tr
      rw [e] at this
      have h0 : gg.tr.size = 0 := this.symm
      cases et : gg.tr with
      | nil => rw [et] at hn; cases hn
      | cons w a b => rw [et] at h0; have : 1 + a.size + b.size = 0 := h0; omega
    | cons m r => exact ⟨m, r, rfl⟩
  have hm1 : (m1.1, m1.2) ∈ fp gg.tr := by rw [efp]; exact List.mem_cons_self ..
  have hf2' : FsAt J2 (.ofFields ((("." : Str), gg.tr) :: m1 :: rest)) us := by rw [← efp]; exact hf2
  obtain ⟨v0, us1, rfl, hf3⟩ := fs_uncons hf2'
  obtain ⟨p1', q1', qs1, rfl, ep1, ht1, _⟩ := id hf3
  refine ⟨_, rfl, Dp, _, 1, .ref p1', rfl, rfl, .inl (.inl eDp2), atI_nat (j := 1) rfl, p1', _, 0, .str m1.1, rfl, rfl, .inl (.inl ep1), at0, ?_⟩
  have alp := fp_al gd hm1
  obtain ⟨fitn, nthen⟩ := fit_new gd hm1
  clear hf2 hf2' hf3 ep1 ht1 eDp2
  dsimp only [gName]
  -- the others: z
  refine ⟨_, rfl, (by show 2 ≤ sizeLine; decide), fun c1 nc1 => ⟨(by show 1 ≤ sizeLine; decide), fun c2 nc2 => ?_⟩⟩
  have sc := (same_upd (o := .tup [.str "z", .str "."]) nc1).trans (same_upd (o := .tup [.ref c1]) nc2)
  have ec2 : (upd (upd J2 c1 (.tup [.str "z", .str "."])) c2 (.tup [.ref c1])) c2 = some (.tup [.ref c1]) := upd_same
  have ec1 := (same_upd (o := .tup [.ref c1]) nc2) _ _ (upd_same (H := J2) (a := c1) (o := .tup [.str "z", .str "."]))
  generalize upd (upd J2 c1 (.tup [.str "z", .str "."])) c2 (.tup [.ref c1]) = J3 at *
  have ls3 := ls2.same sc
  have sh3 := sh2.kz (kz_of sc)
  intro uz dz nuz ndz nez
  refine mkUx (ps := [("z", ".")]) (zs := []) ls3 sh3 gd (one_pars ls3 ec2 ec1) areP_z rfl nuz ndz nez fun J4 s4 upz => ⟨rfl, ?_⟩
  have s24 := sc.trans s4
  have upb := upb.kn ls2 (Kn.of s24)
  have ls4 := ls2.same s24
  have sh4 := sh2.kz (kz_of s24)
  have S4 := S2.same s24
  clear ls2 sh2 S2 ls3 sh3 sc s4 s24 ec1 ec2 nc1 nc2 nuz ndz nez
  -- then
  refine ⟨_, rfl, Nat.zero_le _, fun e1 ne1 => ?_⟩
  have se := same_upd (o := .tup []) ne1
  have ee : (upd J4 e1 (.tup [])) e1 = some (.tup []) := upd_same
  generalize upd J4 e1 (.tup []) = J5 at *
  have ls5 := ls4.same se
  have sh5 := sh4.kz (kz_of se)
  intro ut dt nut ndt net
  refine mkUx (ps := []) (zs := ["then"]) ls5 sh5 gd (nil_pars ls5 ee) areP_nil fit_then nut ndt net fun J6 s6 upt => ⟨rfl, ?_⟩
  have s46 := se.trans s6
  have upb := upb.kn ls4 (Kn.of s46)
  have upz := upz.kn ls4 (Kn.of s46)
  have ls6 := ls4.same s46
  have sh6 := sh4.kz (kz_of s46)
  have S6 := S4.same s46
  clear ls4 sh4 S4 ls5 sh5 se s6 s46 ee ne1 nut ndt net
  refine ⟨(by show 2 ≤ sizeLine; decide), fun O nO => ?_⟩
  have nn : ∀ b ∈ [O, st, g, l], b ∈ [st, g, l] ∨ J6 b = none := fun b hb => by
    rcases List.mem_cons.mp hb with rfl | hb
    · exact .inr nO
    · exact .inl hb
  have sO := same_upd (o := .lst [.ref uz, .ref ut]) nO
  have eO : (upd J6 O (.lst [.ref uz, .ref ut])) O = some (.lst [.ref uz, .ref ut]) := upd_same
  have lsO : LsN [O, st, g, l] (upd J6 O (.lst [.ref uz, .ref ut])) := LsN.cons eO (ls6.same sO)
  have go : ∀ {u sh : Addr} {g' : Sg} {ps : Prs} {ws : List Str}, UpAt [st, g, l] K J6 u sh g' ps ws → UpAt [O, st, g, l] K (upd J6 O (.lst [.ref uz, .ref ut])) u sh g' ps ws := fun {u sh g' ps ws} h => by
    obtain ⟨dx, pv, rs, ks, wr, h1, h2, h3, h4, h5, h6, h7, h8, h9⟩ := h.new nn
    refine ⟨dx, pv, rs, ks, wr, sO _ _ h1, h2, h3.same sO, sO _ _ h4, h5, h6.keep (fun b o e _ => sO _ _ e) (fun b z _ => z), h7.keep (fun _ _ _ _ e _ => sO _ _ e) (fun _ _ e _ => sO _ _ e) (fun b z _ => z), h8.kz (kz_of sO), h9⟩
  have upb := go upb
  have upz := go upz
  have upt := go upt
  have shO := (ShN.new sh6 nn).kz (kz_of sO)
  have SO := S6.same sO
  obtain ⟨o1, o2, o3⟩ := S6.ne nO
  generalize upd J6 O (.lst [.ref uz, .ref ut]) = J7 at *
  clear go sO nn ls6 sh6 S6 nO
  dsimp only [gName]
  -- new
  refine ⟨_, rfl, .inl ⟨rfl, _, .inl (.inl eO)⟩, _, rfl, Nat.zero_le _, fun e2 ne2 => ?_⟩
  have se := same_upd (o := .tup []) ne2
  have ee : (upd J7 e2 (.tup [])) e2 = some (.tup []) := upd_same
  generalize upd J7 e2 (.tup []) = J8 at *
  have l4 : ("new " : Str).length = 4 := by decide +kernel
  have l7 : (" = old " : Str).length = 7 := by decide +kernel
  have lp := alp.2
  refine ⟨_, rfl, _, _, rfl, rfl, sz5 (by rw [l4]; omega), _, _, rfl, rfl, sz5 (by rw [len_app, l4, l7]; omega), _, rfl, _, _, rfl, rfl, sz5 (by rw [len_app, len_app, l4, l7]; omega), ?_⟩
  have ls8 := lsO.same se
  have sh8 := shO.kz (kz_of se)
  intro un dn nun ndn nen
  refine mkUx (ps := []) (zs := [newT m1.1]) ls8 sh8 gd (nil_pars ls8 ee) areP_nil fitn nun ndn nen fun J9 s9 upn => ⟨rfl, ?_⟩
  have s79 := se.trans s9
  have upb := upb.kn lsO (Kn.of s79)
  have upz := upz.kn lsO (Kn.of s79)
  have upt := upt.kn lsO (Kn.of s79)
  have ls9 := lsO.same s79
  have sh9 := shO.kz (kz_of s79)
  have eO9 := s79 _ _ eO
  clear lsO shO SO ls8 sh8 se s9 s79 ee ne2 nun ndn nen eO
  refine ⟨O, _, _, rfl, rfl, eO9, small1000 (by show 2 ≤ 1000; decide), ?_⟩
  have mO : O ∈ [O, st, g, l] := List.mem_cons_self ..
  have upb := upb.mut (o := .lst ([.ref uz, .ref ut] ++ [.ref un])) ls9 mO
  have upz := upz.mut (o := .lst ([.ref uz, .ref ut] ++ [.ref un])) ls9 mO
  have upt := upt.mut (o := .lst ([.ref uz, .ref ut] ++ [.ref un])) ls9 mO
  have upn := upn.mut (o := .lst ([.ref uz, .ref ut] ++ [.ref un])) ls9 mO
  have shA := ShN.mut (o := .lst ([.ref uz, .ref ut] ++ [.ref un])) sh9 ls9 mO
  have lsA := LsN.mut (D := O) (xs := [.ref uz, .ref ut] ++ [.ref un]) ls9
  have eOA : (upd J9 O (.lst ([.ref uz, .ref ut] ++ [.ref un]))) O = some (.lst [.ref uz, .ref ut, .ref un]) := upd_same
  refine absH fun Ja eqa => ?_
  have eqa : Ja = upd J9 O (.lst ([.ref uz, .ref ut] ++ [.ref un])) := eqa
  rw [← eqa] at upb upz upt upn shA lsA eOA
  clear eqa eO9 ls9 sh9
  -- another shape
  refine ⟨_, rfl, .inl ⟨rfl, _, .inl (.inl eOA)⟩, ?_⟩
  intro y dy ny ndy ney
  have sy : Same Ja (upd (upd Ja dy (.own y)) y (.ins (He.ga K "Shape") dy [])) := (same_upd ndy).trans (same_upd (by rw [upd_ne ney.symm]; exact ny))
  have hy : (upd (upd Ja dy (.own y)) y (.ins (He.ga K "Shape") dy [])) y = some (.ins (He.ga K "Shape") dy []) := upd_same
  generalize upd (upd Ja dy (.own y)) y (.ins (He.ga K "Shape") dy []) = Jb at *
  refine ⟨y, _, dy, rfl, hy, .inl ⟨zzT, zz_good, by have := (good_has zz_good).1; omega, by rw [zz_text], fun gz Jc egz kc sgz => ⟨rfl, ?_⟩⟩⟩
  have sac : Same Ja Jc := fun b o e => kc b o (sy b o e) (ne_of_none e ny)
  have shz : ShG (fun b => b ∉ [O, st, g, l]) (He.ga K "Shape") Jc y gz := sgz.imp fun b hb _ => by
    rcases hb with rfl | hb
    · exact lsA.new ny
    · exact (lsA.same sy).new hb
  refine ⟨Nat.zero_le _, fun e3 ne3 => ?_⟩
  have se := same_upd (o := .tup []) ne3
  have ee : (upd Jc e3 (.tup [])) e3 = some (.tup []) := upd_same
  generalize upd Jc e3 (.tup []) = Jd at *
  have sad := sac.trans se
  have lsd := lsA.same sad
  have shzd := shz.kz (kz_of se)
  intro us2 ds2 nus nds nes
  refine mkUx (ps := []) (zs := []) lsd shzd (by rw [egz]; exact zz_good) (nil_pars lsd ee) areP_nil rfl nus nds nes fun Je sE ups => ⟨rfl, ?_⟩
  have sae := sad.trans sE
  have upb := (upb.kn lsA (Kn.of sae))
  have upz := (upz.kn lsA (Kn.of sae))
  have upt := (upt.kn lsA (Kn.of sae))
  have upn := (upn.kn lsA (Kn.of sae))
  have lse := lsA.same sae
  have she := shA.kz (kz_of sae)
  have eOe := sae _ _ eOA
  clear lsA shA eOA sae sE sad lsd shzd se ee ne3 nus nds nes sac sy hy kc sgz shz ny ndy ney
  refine ⟨O, _, _, rfl, rfl, eOe, small1000 (by show 3 ≤ 1000; decide), ?_⟩
  have upb := upb.mut (o := .lst ([.ref uz, .ref ut, .ref un] ++ [.ref us2])) lse mO
  have upz := upz.mut (o := .lst ([.ref uz, .ref ut, .ref un] ++ [.ref us2])) lse mO
  have upt := upt.mut (o := .lst ([.ref uz, .ref ut, .ref un] ++ [.ref us2])) lse mO
  have upn := upn.mut (o := .lst ([.ref uz, .ref ut, .ref un] ++ [.ref us2])) lse mO
  have ups := ups.mut (o := .lst ([.ref uz, .ref ut, .ref un] ++ [.ref us2])) lse mO
  have shf := ShN.mut (o := .lst ([.ref uz, .ref ut, .ref un] ++ [.ref us2])) she lse mO
  have lsf := LsN.mut (D := O) (xs := [.ref uz, .ref ut, .ref un] ++ [.ref us2]) lse
  have eOf : (upd Je O (.lst ([.ref uz, .ref ut, .ref un] ++ [.ref us2]))) O = some (.lst [.ref uz, .ref ut, .ref un, .ref us2]) := upd_same
  refine absH fun Jf eqf => ?_
  have eqf : Jf = upd Je O (.lst ([.ref uz, .ref ut, .ref un] ++ [.ref us2])) := eqf
  rw [← eqf] at upb upz upt upn ups shf lsf eOf
  clear eqf eOe lse she
  -- y
  refine ⟨_, rfl, .inl ⟨rfl, _, .inl (.inl eOf)⟩, _, rfl, (by show 2 ≤ sizeLine; decide), fun c3 nc3 => ⟨(by show 1 ≤ sizeLine; decide), fun c4 nc4 => ?_⟩⟩
  have sc := (same_upd (o := .tup [.str "y", .str "."]) nc3).trans (same_upd (o := .tup [.ref c3]) nc4)
  have ec4 : (upd (upd Jf c3 (.tup [.str "y", .str "."])) c4 (.tup [.ref c3])) c4 = some (.tup [.ref c3]) := upd_same
  have ec3 := (same_upd (o := .tup [.ref c3]) nc4) _ _ (upd_same (H := Jf) (a := c3) (o := .tup [.str "y", .str "."]))
  generalize upd (upd Jf c3 (.tup [.str "y", .str "."])) c4 (.tup [.ref c3]) = Jg at *
  have lsg := lsf.same sc
  have shg := shf.kz (kz_of sc)
  intro uy dyy nuy ndyy neyy
  refine mkUx (ps := [("y", ".")]) (zs := []) lsg shg gd (one_pars lsg ec4 ec3) areP_y rfl nuy ndyy neyy fun Jh sH upy => ⟨rfl, ?_⟩
  have sfh := sc.trans sH
  have upb := (upb.kn lsf (Kn.of sfh))
  have upz := (upz.kn lsf (Kn.of sfh))
  have upt := (upt.kn lsf (Kn.of sfh))
  have upn := (upn.kn lsf (Kn.of sfh))
  have ups := (ups.kn lsf (Kn.of sfh))
  have lsh := lsf.same sfh
  have shh := shf.kz (kz_of sfh)
  have eOh := sfh _ _ eOf
  clear lsf shf eOf sfh sH sc ec4 ec3 nc3 nc4 lsg shg nuy ndyy neyy
  refine ⟨O, _, _, rfl, rfl, eOh, small1000 (by show 4 ≤ 1000; decide), ?_⟩
  have upb := upb.mut (o := .lst ([.ref uz, .ref ut, .ref un, .ref us2] ++ [.ref uy])) lsh mO
  have upz := upz.mut (o := .lst ([.ref uz, .ref ut, .ref un, .ref us2] ++ [.ref uy])) lsh mO
  have upt := upt.mut (o := .lst ([.ref uz, .ref ut, .ref un, .ref us2] ++ [.ref uy])) lsh mO
  have upn := upn.mut (o := .lst ([.ref uz, .ref ut, .ref un, .ref us2] ++ [.ref uy])) lsh mO
  have ups := ups.mut (o := .lst ([.ref uz, .ref ut, .ref un, .ref us2] ++ [.ref uy])) lsh mO
  have upy := upy.mut (o := .lst ([.ref uz, .ref ut, .ref un, .ref us2] ++ [.ref uy])) lsh mO
  have shj := ShN.mut (o := .lst ([.ref uz, .ref ut, .ref un, .ref us2] ++ [.ref uy])) shh lsh mO
  have lsj := LsN.mut (D := O) (xs := [.ref uz, .ref ut, .ref un, .ref us2] ++ [.ref uy]) lsh
  have eOj : (upd Jh O (.lst ([.ref uz, .ref ut, .ref un, .ref us2] ++ [.ref uy]))) O = some (.lst [.ref uz, .ref ut, .ref un, .ref us2, .ref uy]) := upd_same
  refine absH fun Jj eqj => ?_
  have eqj : Jj = upd Jh O (.lst ([.ref uz, .ref ut, .ref un, .ref us2] ++ [.ref uy])) := eqj
  rw [← eqj] at upb upz upt upn ups upy shj lsj eOj
  clear eqj eOh lsh shh
  -- told apart
  have oat : ∀ m ∈ ([(uz, x, gg, [("z", ".")], []), (ut, x, gg, [], ["then"]), (un, x, gg, [], [newT m1.1]), (us2, y, gz, [], []), (uy, x, gg, [("y", ".")], [])] : List Ob), OAt [O, st, g, l] K Jj m := fun m hm => by
    simp only [List.mem_cons, List.not_mem_nil, or_false] at hm
    rcases hm with rfl | rfl | rfl | rfl | rfl
    · exact upz
    · exact upt
    · exact upn
    · exact ups
    · exact upy
  have okeys : ([(uz, x, gg, [("z", ".")], []), (ut, x, gg, [], ["then"]), (un, x, gg, [], [newT m1.1]), (us2, y, gz, [], []), (uy, x, gg, [("y", ".")], [])] : List Ob).map okey = othersM gg.tr.text (newT m1.1) := by
    show [_, _, _, (gz.tr.text, _, _), _] = _
    rw [egz]
    rfl
  have orefs : [V.ref uz, .ref ut, .ref un, .ref us2, .ref uy] = ([(uz, x, gg, [("z", ".")], []), (ut, x, gg, [], ["then"]), (un, x, gg, [], [newT m1.1]), (us2, y, gz, [], []), (uy, x, gg, [("y", ".")], [])] : List Ob).map fun m => V.ref m.1 := rfl
  have olen : ([(uz, x, gg, [("z", ".")], []), (ut, x, gg, [], ["then"]), (un, x, gg, [], [newT m1.1]), (us2, y, gz, [], []), (uy, x, gg, [("y", ".")], [])] : List Ob).length = 5 := rfl
  rw [orefs] at eOj
  clear orefs upz upt upn ups upy
  generalize ([(uz, x, gg, [("z", ".")], []), (ut, x, gg, [], ["then"]), (un, x, gg, [], [newT m1.1]), (us2, y, gz, [], []), (uy, x, gg, [("y", ".")], [])] : List Ob) = ms at *
  obtain ⟨ond, obare⟩ := others_nd (row := newT m1.1) (zz_ne gd hl2) nthen
  rw [← okeys] at ond obare
  dsimp only [gName]
  refine ⟨_, rfl, O, _, rfl, .inl (.inl eOj), ?_⟩
  refine for_it (walk_enum (K := K) (a := O) (xs := ms.map fun m => V.ref m.1)) (fun i σ HH => ∃ y9 y13 : Option V, σ = [some (.ref a), some (.ref st), some v, some (.ref Dp), some (.ref x), some (.ref Dw), some (.ref Dz), some (.ref pt), some (.ref Du), y9, some (.ref ub), some (.str m1.1), some (.ref O), y13, none, none, none, none] ∧ Same Jj HH) ?_ (fun i σ HH _ pp => ?_) (fun i w0 σ HH HH' hi pp hy => ?_) (fun σ HH pp => ?_)
  · exact ⟨_, none, rfl, Same.refl _⟩
  · obtain ⟨_, _, _, sH⟩ := pp
    exact .inl (.inl (sH _ _ eOj))
  · obtain ⟨y9, y13, rfl, sH⟩ := pp
    obtain ⟨T0, xi, vi, rfl, nT, rfl, ex, eq⟩ := hy
    cases ex
    have hi5 : i < ms.length := by rw [← List.length_map (f := fun m : Ob => V.ref m.1)]; exact hi
    obtain ⟨m, hm⟩ : ∃ m, ms[i]? = some m := ⟨_, List.getElem?_eq_getElem hi5⟩
    have eq : (ms.map fun m : Ob => V.ref m.1)[i]? = some vi := eq
    have eqi := eq
    rw [List.getElem?_map, hm] at eq
    cases eq
    have mm := List.mem_of_getElem? hm
    have sT := same_upd (o := .tup [.int (i : Nat), .ref m.1]) nT
    have eT : (upd HH T0 (.tup [.int (i : Nat), .ref m.1])) T0 = some (.tup [.int (i : Nat), .ref m.1]) := upd_same
    generalize upd HH T0 (.tup [.int (i : Nat), .ref m.1]) = HJ at *
    have sJ := sH.trans sT
    have at_ : ∀ n ∈ ms, OAt [O, st, g, l] K HJ n := fun n hn => UpAt.kn (oat n hn) lsj (Kn.of sJ)
    have upbJ := upb.kn lsj (Kn.of sJ)
    have eOJ := sJ _ _ eOj
    refine ⟨T0, _, rfl, .inl (.inl eT), rfl, _, _, rfl, _, _, rfl, rfl, ?_⟩
    have hk1 : ¬ (m.2.2.1.tr.text = gg.tr.text ∧ m.2.2.2.1 = [] ∧ m.2.2.2.2 = []) := fun h => obare (by
      have : okey m = (gg.tr.text, ([] : Prs), ([] : List Str)) := by
        unfold okey
        rw [h.1, h.2.1, h.2.2]
      rw [← this]
      exact List.mem_map.mpr ⟨m, mm, rfl⟩)
    refine ⟨_, rfl, _, rfl, up_eq (at_ m mm) upbJ ⟨_, rfl, ?_⟩⟩
    rw [decide_eq_false hk1]
    refine iteF ?_
    refine ⟨_, rfl, O, rfl, ⟨_, .inl (.inl eOJ)⟩, fun D hD => ?_⟩
    refine lcM (walk_list (xs := ms.map fun m : Ob => V.ref m.1)) ms (by rw [List.length_map]) (fun n : Ob => some (.bl (decide (okey m = okey n)))) (fun H s => s.seq (.inl (.inl eOJ))) (sz5 (by rw [List.length_map]; omega)) hD (fun j z n H' hz hn s' => ?_) (fun H5 s5 e5 => ?_)
    · obtain rfl : z = .ref n.1 := by
        rw [List.getElem?_map, hn] at hz
        exact (Option.some.inj hz).symm
      intro Q1 Q0 b1 b0
      refine ⟨rfl, _, rfl, _, rfl, up_eq (UpAt.kn (at_ m mm) (lsj.same sJ) (Kn.of s')) (UpAt.kn (at_ n (List.mem_of_getElem? hn)) (lsj.same sJ) (Kn.of s')) ?_⟩
      exact b1 _ _ (by rw [dec_key]) (Same.refl _)
    have ebs : (ms.filterMap fun n : Ob => some (V.bl (decide (okey m = okey n)))) = (ms.map fun n => decide (okey m = okey n)).map V.bl := by
      rw [List.filterMap_eq_map', List.map_map]
      rfl
    rw [ebs] at e5
    have ecnt : (ms.map fun n => decide (okey m = okey n)).count true = 1 := by
      have := count_eq (x := okey m) ond (i := i) (by rw [List.getElem?_map, hm]; rfl)
      rw [List.map_map] at this
      exact this
    refine ⟨.inl ⟨rfl, _, .inl (.inl e5)⟩, D, _, true, rfl, rfl, .inl (.inl e5), ?_⟩
    rw [ecnt]
    refine ⟨rfl, _, rfl, iteNN rfl ?_⟩
    have s6 := sJ.trans s5
    have at6 : OAt [O, st, g, l] K H5 m := UpAt.kn (oat m mm) lsj (Kn.of s6)
    refine ⟨_, rfl, _, rfl, _, rfl, O, _, (i : Int), .ref m.1, rfl, rfl, .inl (.inl (s5 _ _ eOJ)), atI_nat (j := i) eqi, ?_⟩
    refine up_eq at6 at6 ?_
    rw [decide_eq_true (show m.2.2.1.tr.text = m.2.2.1.tr.text ∧ m.2.2.2.1 = m.2.2.2.1 ∧ m.2.2.2.2 = m.2.2.2.2 from ⟨rfl, rfl, rfl⟩)]
    refine ⟨_, rfl, iteF ?_⟩
    exact ⟨_, _, rfl, s6⟩
  obtain ⟨y9, y13, rfl, sH⟩ := pp
  have lsH := lsj.same sH
  have upbH := upb.kn lsj (Kn.of sH)
  have shH := shj.kz (kz_of sH)
  refine ⟨(by show 4 ≤ sizeLine; decide), fun e9 ne9 => ?_⟩
  have s9 := same_upd (o := .tup (marks.map V.str)) ne9
  have msh : SeqAt.shaped (.tuple (marks.map PyData.str)) = true := by decide +kernel
  refine ⟨.tuple (marks.map PyData.str), .tuple (marks.map PyData.str), .tup (T.t_MARKS_updates _) (strs_dt (N := []) (H := upd HH e9 (.tup (marks.map V.str))) marks).dp, .tup (.inl (.inl upd_same)) (strs_dt (N := []) (H := upd HH e9 (.tup (marks.map V.str))) marks).dp, msh, msh, ?_⟩
  rw [strsT_eqv, decide_eq_true rfl]
  refine ⟨_, rfl, iteT ?_⟩
  refine ⟨_, rfl, _, rfl, Nat.zero_le _, fun ea nea => ⟨Nat.zero_le _, fun eb neb => ?_⟩⟩
  have sa := same_upd (o := .tup []) nea
  have sb := same_upd (o := .lst []) neb
  have s9b := (s9.trans sa).trans sb
  refine ⟨[O, st, g, l], ub, x, x, gg, gg, _, .ref ea, [], eb, [], rfl, upbH.kn lsH (Kn.of s9b), shH.kz (kz_of s9b), rfl, (nil_pars (lsH.same s9b) (sb _ _ upd_same)).free, upd_same, lsH.same s9b, fun H' s' => ?_⟩
  exact q _
end
end Lx

namespace Lx
open PySem PySem.Spec PyProof.Rows L2 Ub Ur Ug Ue Up Uo Ve Va Vk Rw
theorem facts {P : Program} {w : World} {K : PySem.W.Frag} {h : Heap} {mg : Str → Option Value} {f : Addr} (X : K.In h) (G : h.Ns mainGlobals mg) (hfa : mg ("law" : Str) = some (.ref f)) (c : Says w h K) :
    ∃ fd : FuncData, (∀ (s : Shared) (v : Value), BindsTo s fd ⟨[v], []⟩ [("_law_script", v)]) ∧ ∀ base : Heap, K.In base → base.Ns mainGlobals mg → FnG P w K mg base CX0 22 f fd ["_law_script"] (sp_law K) := by
  have T := tx_of X G c
  obtain ⟨fd_BadShape___init__, F_BadShape___init__⟩ := df_BadShape___init__ c
  obtain ⟨fd_BadPath___init__, F_BadPath___init__⟩ := df_BadPath___init__ c
  obtain ⟨fd_law_start, F_law_start⟩ := df_law_start c
  obtain ⟨fd_law_draw, F_law_draw⟩ := df_law_draw c
  obtain ⟨fd_law_of, F_law_of⟩ := df_law_of c
  obtain ⟨fd_law_word, F_law_word⟩ := df_law_word c
  obtain ⟨fd_is_word, F_is_word⟩ := df_is_word c
  obtain ⟨fd_records_of, F_records_of⟩ := df_records_of c
  obtain ⟨fd_plains_of, F_plains_of⟩ := df_plains_of c
  obtain ⟨fd_text_of, F_text_of⟩ := df_text_of c
  obtain ⟨fd_scan_word, F_scan_word⟩ := df_scan_word c
  obtain ⟨fd_scan_shape, F_scan_shape⟩ := df_scan_shape c
  obtain ⟨fd_is_bounded, F_is_bounded⟩ := df_is_bounded c
  obtain ⟨fd_tree_of, F_tree_of⟩ := df_tree_of c
  obtain ⟨fd_Shape___init__, F_Shape___init__⟩ := df_Shape___init__ c
  obtain ⟨fd_law_records, F_law_records⟩ := df_law_records c
  obtain ⟨fd_law_plains, F_law_plains⟩ := df_law_plains c
  obtain ⟨fd_law_depth, F_law_depth⟩ := df_law_depth c
  obtain ⟨fd_law_text, F_law_text⟩ := df_law_text c
  obtain ⟨fd_law_tree, F_law_tree⟩ := df_law_tree c
  obtain ⟨fd_law_made_shape, F_law_made_shape⟩ := df_law_made_shape c
  obtain ⟨fd_law_paths, F_law_paths⟩ := df_law_paths c
  obtain ⟨fd_Shape___getitem__, F_Shape___getitem__⟩ := df_Shape___getitem__ c
  obtain ⟨fd_Shape___contains__, F_Shape___contains__⟩ := df_Shape___contains__ c
  obtain ⟨fd_Shape___eq__, F_Shape___eq__⟩ := df_Shape___eq__ c
  obtain ⟨fd_Shape_is_plain, F_Shape_is_plain⟩ := df_Shape_is_plain c
  obtain ⟨fd_Shape_plains, F_Shape_plains⟩ := df_Shape_plains c
  obtain ⟨fd_BadParameters___init__, F_BadParameters___init__⟩ := df_BadParameters___init__ c
  obtain ⟨fd_BadRow___init__, F_BadRow___init__⟩ := df_BadRow___init__ c
  obtain ⟨fd_BadLine___init__, F_BadLine___init__⟩ := df_BadLine___init__ c
  obtain ⟨fd_SetRow___init__, F_SetRow___init__⟩ := df_SetRow___init__ c
  obtain ⟨fd_made_row, F_made_row⟩ := df_made_row c
  obtain ⟨fd_term_of, F_term_of⟩ := df_term_of c
  obtain ⟨fd_read_row, F_read_row⟩ := df_read_row c
  obtain ⟨fd_fits_behind, F_fits_behind⟩ := df_fits_behind c
  obtain ⟨fd_are_parameters, F_are_parameters⟩ := df_are_parameters c
  obtain ⟨fd_read_parameters, F_read_parameters⟩ := df_read_parameters c
  obtain ⟨fd_read_head, F_read_head⟩ := df_read_head c
  obtain ⟨fd_split_rows, F_split_rows⟩ := df_split_rows c
  obtain ⟨fd_Update___init__, F_Update___init__⟩ := df_Update___init__ c
  obtain ⟨fd_Update_read, F_Update_read⟩ := df_Update_read c
  obtain ⟨fd_Update_slots, F_Update_slots⟩ := df_Update_slots c
  obtain ⟨fd_Update_marks, F_Update_marks⟩ := df_Update_marks c
  obtain ⟨fd_Update_sections, F_Update_sections⟩ := df_Update_sections c
  obtain ⟨fd_Update___eq__, F_Update___eq__⟩ := df_Update___eq__ c
  obtain ⟨fd_Update___str__, F_Update___str__⟩ := df_Update___str__ c
  obtain ⟨fd_law_parameters, F_law_parameters⟩ := df_law_parameters c
  obtain ⟨fd_law_row, F_law_row⟩ := df_law_row c
  obtain ⟨fd_law_row_text, F_law_row_text⟩ := df_law_row_text c
  obtain ⟨fd_law_rows, F_law_rows⟩ := df_law_rows c
  obtain ⟨fd_law_update, F_law_update⟩ := df_law_update c
  obtain ⟨fd_law_sections, F_law_sections⟩ := df_law_sections c
  obtain ⟨fd_law_right, F_law_right⟩ := df_law_right c
  obtain ⟨fd_law, F_law⟩ := df_law c
  have e := hfa.symm.trans T.g_law
  cases e
  have b := FunD.bindsA (ps := ["_law_script"]) F_law fun _ _ _ _ _ _ us hl => match us, hl with | [_], _ => rfl
  refine ⟨fd_law, fun s v => b s [v] rfl, fun base _ _ => ?_⟩
  have x_BadShape : CalX P w K mg base 1 "BadShape" (He.ga K "BadShape") "text" := x_BadShape F_BadShape___init__ T
  have x_BadPath : CalX P w K mg base 1 "BadPath" (He.ga K "BadPath") "path" := x_BadPath F_BadPath___init__ T
  have c_law_start : Cal P w K mg base 1 "_law_start" ["_law_script"] (sp_start K) := ⟨_, fd_law_start, ok_law_start F_law_start T , T.g__law_start, F_law_start.kp, F_law_start.bindsN fun _ _ _ _ _ _ us hl => match us, hl with | [_], _ => rfl⟩
  have c_law_draw : Cal P w K mg base 1 "_law_draw" ["_law_state", "_law_many"] sp_draw := ⟨_, fd_law_draw, ok_law_draw F_law_draw T , T.g__law_draw, F_law_draw.kp, F_law_draw.bindsN fun _ _ _ _ _ _ us hl => match us, hl with | [_, _], _ => rfl⟩
  have c_law_of : Cal P w K mg base 2 "_law_of" ["_law_state", "_law_some"] sp_of := ⟨_, fd_law_of, ok_law_of F_law_of T c_law_draw, T.g__law_of, F_law_of.kp, F_law_of.bindsN fun _ _ _ _ _ _ us hl => match us, hl with | [_, _], _ => rfl⟩
  have c_law_word : Cal P w K mg base 2 "_law_word" ["_law_state", "_law_taken"] sp_word := ⟨_, fd_law_word, ok_law_word F_law_word T c_law_draw, T.g__law_word, F_law_word.kp, F_law_word.bindsN fun _ _ _ _ _ _ us hl => match us, hl with | [_, _], _ => rfl⟩
  have c_is_word : Cal P w K mg base 1 "is_word" ["text"] (sp_is_word K) := ⟨_, fd_is_word, ok_is_word F_is_word T , T.g_is_word, F_is_word.kp, F_is_word.bindsN fun _ _ _ _ _ _ us hl => match us, hl with | [_], _ => rfl⟩
  have b_records_of : Binds K fd_records_of ["tree"] [] := F_records_of.bindsN fun _ _ _ _ _ _ us hl => match us, hl with | [_], _ => rfl
  have c_records_of : Cal P w K mg base 4 "records_of" ["tree"] (sp_tree 4 fun t => .int (t.recs : Nat)) := ⟨_, fd_records_of, ok_records_of F_records_of T T.g_records_of b_records_of 4, T.g_records_of, F_records_of.kp, b_records_of⟩
  have b_plains_of : Binds K fd_plains_of ["tree"] [] := F_plains_of.bindsN fun _ _ _ _ _ _ us hl => match us, hl with | [_], _ => rfl
  have c_plains_of : Cal P w K mg base 4 "plains_of" ["tree"] (sp_tree 4 fun t => .int (t.plains : Nat)) := ⟨_, fd_plains_of, ok_plains_of F_plains_of T T.g_plains_of b_plains_of 4, T.g_plains_of, F_plains_of.kp, b_plains_of⟩
  have b_text_of : Binds K fd_text_of ["tree"] [] := F_text_of.bindsN fun _ _ _ _ _ _ us hl => match us, hl with | [_], _ => rfl
  have c_text_of : Cal P w K mg base 4 "text_of" ["tree"] (sp_tree 4 fun t => .str t.text) := ⟨_, fd_text_of, ok_text_of F_text_of T T.g_text_of b_text_of 4, T.g_text_of, F_text_of.kp, b_text_of⟩
  have c_scan_word : Cal P w K mg base 2 "scan_word" ["text", "at"] sp_scan_word := ⟨_, fd_scan_word, ok_scan_word F_scan_word T c_is_word, T.g_scan_word, F_scan_word.kp, F_scan_word.bindsN fun _ _ _ _ _ _ us hl => match us, hl with | [_, _], _ => rfl⟩
  obtain ⟨ds3_scan_shape, v3, b3_scan_shape⟩ := F_scan_shape.binds1 (ps := ["text", "at", "floors"]) 3 1 (by simp) rfl fun _ _ _ _ _ _ _ us its hu hi => match us, hu, its, hi with | [_, _, _], _, [_], _ => ⟨_, rfl, rfl⟩
  cases v3
  obtain ⟨ds2_scan_shape, v2_scan_shape, b2_scan_shape⟩ := F_scan_shape.binds1 (ps := ["text", "at", "floors"]) 2 0 (by simp) rfl fun _ _ _ _ _ _ _ us its hu hi => match us, hu, its, hi with | [_, _], _, [_], _ => ⟨_, rfl, rfl⟩
  have c_scan_shape2 : CalD P w K mg base 6 "scan_shape" ["text", "at", "floors"] [.int 3] (sp_scan 4) := ⟨_, fd_scan_shape, ds2_scan_shape, ok_scan_shape F_scan_shape T T.g_scan_shape b3_scan_shape c_scan_word 4, T.g_scan_shape, F_scan_shape.kp, b2_scan_shape, v2_scan_shape⟩
  have c_is_bounded : Cal P w K mg base 5 "is_bounded" ["tree"] sp_bounded := ⟨_, fd_is_bounded, ok_is_bounded F_is_bounded T c_records_of c_plains_of, T.g_is_bounded, F_is_bounded.kp, F_is_bounded.bindsN fun _ _ _ _ _ _ us hl => match us, hl with | [_], _ => rfl⟩
  have c_tree_of : Cal P w K mg base 7 "tree_of" ["text"] (sp_tree_of K) := ⟨_, fd_tree_of, ok_tree_of F_tree_of T c_is_bounded c_scan_shape2, T.g_tree_of, F_tree_of.kp, F_tree_of.bindsN fun _ _ _ _ _ _ us hl => match us, hl with | [_], _ => rfl⟩
  have b_Shape___init__ : Binds K fd_Shape___init__ ["self", "text"] [] := F_Shape___init__.bindsN fun _ _ _ _ _ _ us hl => match us, hl with | [_, _], _ => rfl
  have m_Shape : CalM P w K mg base 16 "Shape" (He.ga K "Shape") ["self", "text"] (sp_shape K (He.ga K "Shape") (He.ga K "BadShape") 4) := ⟨_, fd_Shape___init__, T.m_Shape, ok_Shape F_Shape___init__ T b_Shape___init__ c_tree_of c_text_of x_BadShape 4, T.g_Shape, b_Shape___init__⟩
  have b_law_records : Binds K fd_law_records ["_law_tree_here"] [] := F_law_records.bindsN fun _ _ _ _ _ _ us hl => match us, hl with | [_], _ => rfl
  have c_law_records : Cal P w K mg base 4 "_law_records" ["_law_tree_here"] (sp_tree 4 fun t => .int (t.recs : Nat)) := ⟨_, fd_law_records, ok_law_records F_law_records T T.g__law_records b_law_records 4, T.g__law_records, F_law_records.kp, b_law_records⟩
  have b_law_plains : Binds K fd_law_plains ["_law_tree_here"] [] := F_law_plains.bindsN fun _ _ _ _ _ _ us hl => match us, hl with | [_], _ => rfl
  have c_law_plains : Cal P w K mg base 4 "_law_plains" ["_law_tree_here"] (sp_tree 4 fun t => .int (t.plains : Nat)) := ⟨_, fd_law_plains, ok_law_plains F_law_plains T T.g__law_plains b_law_plains 4, T.g__law_plains, F_law_plains.kp, b_law_plains⟩
  have b_law_depth : Binds K fd_law_depth ["_law_tree_here"] [] := F_law_depth.bindsN fun _ _ _ _ _ _ us hl => match us, hl with | [_], _ => rfl
  have c_law_depth : Cal P w K mg base 4 "_law_depth" ["_law_tree_here"] (sp_tree 4 fun t => .int (t.depth : Nat)) := ⟨_, fd_law_depth, ok_law_depth F_law_depth T T.g__law_depth b_law_depth 4, T.g__law_depth, F_law_depth.kp, b_law_depth⟩
  have b_law_text : Binds K fd_law_text ["_law_tree_here"] [] := F_law_text.bindsN fun _ _ _ _ _ _ us hl => match us, hl with | [_], _ => rfl
  have c_law_text : Cal P w K mg base 4 "_law_text" ["_law_tree_here"] (sp_tree 4 fun t => .str t.text) := ⟨_, fd_law_text, ok_law_text F_law_text T T.g__law_text b_law_text 4, T.g__law_text, F_law_text.kp, b_law_text⟩
  have b_law_tree : Binds K fd_law_tree ["_law_state", "_law_floors", "_law_room", "_law_pool"] [] := F_law_tree.bindsN fun _ _ _ _ _ _ us hl => match us, hl with | [_, _, _, _], _ => rfl
  have c_law_tree : Cal P w K mg base 8 "_law_tree" ["_law_state", "_law_floors", "_law_room", "_law_pool"] (sp_ltree 4) := ⟨_, fd_law_tree, ok_law_tree F_law_tree T T.g__law_tree b_law_tree c_law_draw c_law_of c_law_word c_law_records c_law_plains c_law_depth 4, T.g__law_tree, F_law_tree.kp, b_law_tree⟩
  have c_law_made_shape : Cal P w K mg base 9 "_law_made_shape" ["_law_state", "_law_least"] sp_mshape := ⟨_, fd_law_made_shape, ok_law_made_shape F_law_made_shape T c_law_draw c_law_word c_law_tree, T.g__law_made_shape, F_law_made_shape.kp, F_law_made_shape.bindsN fun _ _ _ _ _ _ us hl => match us, hl with | [_, _], _ => rfl⟩
  have b_law_paths : Binds K fd_law_paths ["_law_tree_here"] [] := F_law_paths.bindsN fun _ _ _ _ _ _ us hl => match us, hl with | [_], _ => rfl
  have c_law_paths : Cal P w K mg base 4 "_law_paths" ["_law_tree_here"] (sp_lpaths 4) := ⟨_, fd_law_paths, ok_law_paths F_law_paths T T.g__law_paths b_law_paths 4, T.g__law_paths, F_law_paths.kp, b_law_paths⟩
  have k_Shape_getitem : CalK P w K mg base (L2.CX P w) 4 (He.ga K "Shape") "__getitem__" ["self", "path"] (sp_get K (He.ga K "Shape") (He.ga K "BadPath")) := ⟨_, fd_Shape___getitem__, T.h_Shape___getitem__, T.fi_get, ok_get F_Shape___getitem__ T x_BadPath, F_Shape___getitem__.bindsN fun _ _ _ _ _ _ us hl => match us, hl with | [_, _], _ => rfl⟩
  have k_Shape_contains : CalK P w K mg base CX0 1 (He.ga K "Shape") "__contains__" ["self", "path"] (sp_con K (He.ga K "Shape")) := ⟨_, fd_Shape___contains__, T.h_Shape___contains__, T.fi_con, ok_con F_Shape___contains__ T, F_Shape___contains__.bindsN fun _ _ _ _ _ _ us hl => match us, hl with | [_, _], _ => rfl⟩
  have k_Shape_eq : CalK P w K mg base CX0 1 (He.ga K "Shape") "__eq__" ["self", "other"] (sp_eqS K (He.ga K "Shape")) := ⟨_, fd_Shape___eq__, T.h_Shape___eq__, T.fi_eq, ok_eq F_Shape___eq__ T, F_Shape___eq__.bindsN fun _ _ _ _ _ _ us hl => match us, hl with | [_, _], _ => rfl⟩
  have p_Shape_is_plain : CalP P w K mg base 1 (He.ga K "Shape") "is_plain" (sp_shP (He.ga K "Shape") fun t => .bl t.isNil) := ⟨_, _, fd_Shape_is_plain, T.p_Shape_is_plain.ex, T.k_Shape, ok_is_plain F_Shape_is_plain T , F_Shape_is_plain.bindsN fun _ _ _ _ _ _ us hl => match us, hl with | [_], _ => rfl⟩
  have p_Shape_plains : CalP P w K mg base 5 (He.ga K "Shape") "plains" (sp_shP (He.ga K "Shape") fun t => .int (t.plains : Nat)) := ⟨_, _, fd_Shape_plains, T.p_Shape_plains.ex, T.k_Shape, ok_pplains F_Shape_plains T c_plains_of, F_Shape_plains.bindsN fun _ _ _ _ _ _ us hl => match us, hl with | [_], _ => rfl⟩
  have x_BadParameters : CalX P w K mg base 1 "BadParameters" (He.ga K "BadParameters") "parameters" := x_BadParameters F_BadParameters___init__ T
  have x_BadRow : CalX P w K mg base 1 "BadRow" (He.ga K "BadRow") "at" := x_BadRow F_BadRow___init__ T
  have x_BadLine : CalX P w K mg base 1 "BadLine" (He.ga K "BadLine") "at" := x_BadLine F_BadLine___init__ T
  have b_SetRow : Binds K fd_SetRow___init__ ["self", "path", "source", "word"] [] := F_SetRow___init__.bindsN fun _ _ _ _ _ _ us hl => match us, hl with | [_, _, _, _], _ => rfl
  have m_SetRow : CalM P w K mg base 1 "SetRow" (He.ga K "SetRow") ["self", "path", "source", "word"] (sp_setrow K) := ⟨_, fd_SetRow___init__, T.m_SetRow, ok_SetRow F_SetRow___init__ T, T.g_SetRow, b_SetRow⟩
  have m_NewRow : CalM P w K mg base 1 "NewRow" (He.ga K "NewRow") ["self", "path", "source", "word"] (sp_setrow K) := ⟨_, fd_SetRow___init__, T.m_NewRow, ok_SetRow F_SetRow___init__ T, T.g_NewRow, b_SetRow⟩
  have m_EditRow : CalM P w K mg base 1 "EditRow" (He.ga K "EditRow") ["self", "path", "source", "word"] (sp_setrow K) := ⟨_, fd_SetRow___init__, T.m_EditRow, ok_SetRow F_SetRow___init__ T, T.g_EditRow, b_SetRow⟩
  have m_MergeRow : CalM P w K mg base 1 "MergeRow" (He.ga K "MergeRow") ["self", "path", "source", "word"] (sp_setrow K) := ⟨_, fd_SetRow___init__, T.m_MergeRow, ok_SetRow F_SetRow___init__ T, T.g_MergeRow, b_SetRow⟩
  have c_made_row : Cal P w K mg base 3 "made_row" ["mark", "path", "source", "word"] (sp_made K) := ⟨_, fd_made_row, ok_made_row F_made_row T m_SetRow m_NewRow m_EditRow m_MergeRow, T.g_made_row, F_made_row.kp, F_made_row.bindsN fun _ _ _ _ _ _ us hl => match us, hl with | [_, _, _, _], _ => rfl⟩
  have c_term_of : Cal P w K mg base 6 "term_of" ["shape", "parameters", "term"] (sp_term (He.ga K "Shape")) := ⟨_, fd_term_of, ok_term_of F_term_of T k_Shape_contains k_Shape_getitem p_Shape_is_plain, T.g_term_of, F_term_of.kp, F_term_of.bindsN fun _ _ _ _ _ _ us hl => match us, hl with | [_, _, _], _ => rfl⟩
  have c_read_row : Cal P w K mg base 7 "read_row" ["shape", "parameters", "row"] (sp_rrow K (He.ga K "Shape")) := ⟨_, fd_read_row, ok_read_row F_read_row T k_Shape_contains k_Shape_getitem c_term_of c_made_row, T.g_read_row, F_read_row.kp, F_read_row.bindsN fun _ _ _ _ _ _ us hl => match us, hl with | [_, _, _], _ => rfl⟩
  have c_fits_behind : Cal P w K mg base 8 "fits_behind" ["shape", "parameters", "rows", "row"] (sp_fits K (He.ga K "Shape")) := ⟨_, fd_fits_behind, ok_fits_behind F_fits_behind T c_read_row, T.g_fits_behind, F_fits_behind.kp, F_fits_behind.bindsN fun _ _ _ _ _ _ us hl => match us, hl with | [_, _, _, _], _ => rfl⟩
  have c_are_parameters : Cal P w K mg base 8 "are_parameters" ["parameters"] sp_arep := ⟨_, fd_are_parameters, ok_are_parameters F_are_parameters T c_tree_of c_is_word c_plains_of, T.g_are_parameters, F_are_parameters.kp, F_are_parameters.bindsN fun _ _ _ _ _ _ us hl => match us, hl with | [_], _ => rfl⟩
  have c_read_parameters : Cal P w K mg base 7 "read_parameters" ["text"] sp_rpars := ⟨_, fd_read_parameters, ok_read_parameters F_read_parameters T c_scan_word c_scan_shape2 c_text_of, T.g_read_parameters, F_read_parameters.kp, F_read_parameters.bindsN fun _ _ _ _ _ _ us hl => match us, hl with | [_], _ => rfl⟩
  have c_read_head : Cal P w K mg base 9 "read_head" ["line"] sp_rhead := ⟨_, fd_read_head, ok_read_head F_read_head T c_read_parameters c_is_word c_are_parameters, T.g_read_head, F_read_head.kp, F_read_head.bindsN fun _ _ _ _ _ _ us hl => match us, hl with | [_], _ => rfl⟩
  have c_split_rows : Cal P w K mg base 1 "split_rows" ["rows"] sp_split := ⟨_, fd_split_rows, ok_split_rows F_split_rows T , T.g_split_rows, F_split_rows.kp, F_split_rows.bindsN fun _ _ _ _ _ _ us hl => match us, hl with | [_], _ => rfl⟩
  have m_Update : CalR P w K mg base 18 "Update" (He.ga K "Update") (SpU K) := ⟨_, T.m_Update, ok_Update F_Update___init__ T c_are_parameters c_fits_behind c_read_row c_split_rows m_Shape x_BadParameters x_BadRow, T.g_Update⟩
  have c_Update_read : CalC P w K mg base 20 "Update" "read" ["cls", "shape", "text"] (sp_read K) := ⟨fd_Update_read, T.cm_read, ok_Update_read F_Update_read T c_read_head c_fits_behind m_Update x_BadLine, F_Update_read.bindsN fun _ _ _ _ _ _ us hl => match us, hl with | [_, _, _], _ => rfl, T.g_Update⟩
  have p_Update_slots : CalP P w K mg base 7 (He.ga K "Update") "slots" (sp_slots K) := ⟨_, _, fd_Update_slots, T.p_Update_slots.ex, T.k_Update, ok_uslots F_Update_slots T p_Shape_plains, F_Update_slots.bindsN fun _ _ _ _ _ _ us hl => match us, hl with | [_], _ => rfl⟩
  have p_Update_marks : CalP P w K mg base 2 (He.ga K "Update") "marks" (sp_marks K) := ⟨_, _, fd_Update_marks, T.p_Update_marks.ex, T.k_Update, ok_umarks F_Update_marks T , F_Update_marks.bindsN fun _ _ _ _ _ _ us hl => match us, hl with | [_], _ => rfl⟩
  have p_Update_sections : CalP P w K mg base 2 (He.ga K "Update") "sections" (sp_secs K) := ⟨_, _, fd_Update_sections, T.p_Update_sections.ex, T.k_Update, ok_usecs F_Update_sections T c_split_rows, F_Update_sections.bindsN fun _ _ _ _ _ _ us hl => match us, hl with | [_], _ => rfl⟩
  have k_Update_eq : CalK P w K mg base CX0 3 (He.ga K "Update") "__eq__" ["self", "other"] (sp_ueq K) := ⟨_, fd_Update___eq__, T.h_Update___eq__, T.fi_ueq, ok_ueq F_Update___eq__ T k_Shape_eq, F_Update___eq__.bindsN fun _ _ _ _ _ _ us hl => match us, hl with | [_, _], _ => rfl⟩
  have k_Update_str : CalK P w K mg base CX0 1 (He.ga K "Update") "__str__" ["self"] (sp_ustr K) := ⟨_, fd_Update___str__, T.h_Update___str__, T.fi_ustr, ok_ustr F_Update___str__ T, F_Update___str__.bindsN fun _ _ _ _ _ _ us hl => match us, hl with | [_], _ => rfl⟩
  have c_law_parameters : Cal P w K mg base 5 "_law_parameters" ["_law_state", "_law_trees"] sp_lpars := ⟨_, fd_law_parameters, ok_law_parameters F_law_parameters T c_law_draw c_law_of c_law_word c_law_plains, T.g__law_parameters, F_law_parameters.kp, F_law_parameters.bindsN fun _ _ _ _ _ _ us hl => match us, hl with | [_, _], _ => rfl⟩
  have c_law_row : Cal P w K mg base 3 "_law_row" ["_law_state", "_law_paths_here", "_law_parameters_here"] sp_lrow := ⟨_, fd_law_row, ok_law_row F_law_row T c_law_of, T.g__law_row, F_law_row.kp, F_law_row.bindsN fun _ _ _ _ _ _ us hl => match us, hl with | [_, _, _], _ => rfl⟩
  have c_law_row_text : Cal P w K mg base 1 "_law_row_text" ["_law_row_here"] sp_rtext := ⟨_, fd_law_row_text, ok_law_row_text F_law_row_text T , T.g__law_row_text, F_law_row_text.kp, F_law_row_text.bindsN fun _ _ _ _ _ _ us hl => match us, hl with | [_], _ => rfl⟩
  have c_law_rows : Cal P w K mg base 4 "_law_rows" ["_law_state", "_law_paths_here", "_law_parameters_here", "_law_most"] sp_lrows := ⟨_, fd_law_rows, ok_law_rows F_law_rows T c_law_draw c_law_row, T.g__law_rows, F_law_rows.kp, F_law_rows.bindsN fun _ _ _ _ _ _ us hl => match us, hl with | [_, _, _, _], _ => rfl⟩
  have c_law_update : Cal P w K mg base 21 "_law_update" ["_law_shape", "_law_parameters_here", "_law_rows_here"] (sp_lupd K) := ⟨_, fd_law_update, ok_law_update F_law_update T m_Update c_Update_read, T.g__law_update, F_law_update.kp, F_law_update.bindsN fun _ _ _ _ _ _ us hl => match us, hl with | [_, _, _], _ => rfl⟩
  have c_law_sections : Cal P w K mg base 1 "_law_sections" ["_law_rows_here"] sp_lsecs := ⟨_, fd_law_sections, ok_law_sections F_law_sections T , T.g__law_sections, F_law_sections.kp, F_law_sections.bindsN fun _ _ _ _ _ _ us hl => match us, hl with | [_], _ => rfl⟩
  have c_law_right : Cal P w K mg base 18 "_law_right" ["_law_made", "_law_shape", "_law_parameters_here", "_law_rows_here"] (sp_lright K) := ⟨_, fd_law_right, ok_law_right F_law_right T k_Shape_eq m_Shape p_Shape_plains p_Update_slots p_Update_marks p_Update_sections k_Update_str c_law_sections, T.g__law_right, F_law_right.kp, F_law_right.bindsN fun _ _ _ _ _ _ us hl => match us, hl with | [_, _, _, _], _ => rfl⟩
  exact ok_law F_law T c_law_start c_law_made_shape c_law_paths c_law_text m_Shape m_Update k_Update_eq k_Update_str c_law_parameters c_law_rows c_law_row_text c_law_update c_law_right
end Lx
open PySem PySem.W PySem.Calls PyProof.Rows
set_option maxHeartbeats 0 in
theorem PySem.Challenge.cw_unseenwrites_k08_updates_made_holds : PySem.Challenge.rw_unseenwrites_k08_updates_made.Holds := by
  w_on; o_law
  refine HandSHeadRun.head_any (r := OpenLaw.row PySem.Challenge.rw_unseenwrites_k08_updates_made) (q := view (OpenLaw.row PySem.Challenge.rw_unseenwrites_k08_updates_made).prog [82]) (H := Lx.hk) (ob := Lx.ob) (M := 20000) (loose := Lx.loose) (d := HandSHeadRun.topDef (OpenLaw.row PySem.Challenge.rw_unseenwrites_k08_updates_made).prog 82) (kwd := []) Lx.ob_eq
    (by kernel_rfl) (fun s => by kernel_rfl) Lx.run (by kernel_rfl) (by kernel_rfl) (by kernel_rfl) (by rfl) (by first | assumption | decide +kernel) (by decide +kernel) ⟨rfl, rfl, rfl, rfl, rfl, by decide +kernel⟩ ?hw ?hc
  case hw => w_witness2
  case hc =>
    refine Ug.walk_ofG (l := PySem.Challenge.rw_unseenwrites_k08_updates_made) (n := 63) (k := 22) (x := "_law_script") rfl (by decide) (by kernel_rfl) ⟨rfl, by decide, by decide⟩ ?F
    intro w mg fa h Y G hmg0
    obtain ⟨K, KX, c⟩ := Y
    have hmg : mg ("law" : PySem.Str) = some (.ref fa) := by
      have e : (HandSHeadRun.topDef (OpenLaw.row PySem.Challenge.rw_unseenwrites_k08_updates_made).prog 82).name = ("law" : PySem.Str) := by kernel_rfl
      rw [← e]
      exact hmg0
    obtain ⟨fd, hb, hF⟩ := Lx.facts (P := (PySem.Challenge.rw_unseenwrites_k08_updates_made).prog) (w := w) KX G hmg c
    exact ⟨K, fd, Lx.sp_law K, KX, hb, fun H a ns hl _ hS => ⟨a, ns, rfl, hS, hl, fun _ => rfl⟩, hF⟩
