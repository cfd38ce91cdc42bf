import PyProof.Rows.All
import Wide.All
import OpenK.AllK
import Wide.FinOn
import HandS.ForMost
import HandS.Wide
import HandS.IsInst
import HandS.Flow
import HandS.Defaults
import HandS.Walk
import HandS.TupAny
import HandS.Head0
import HandS.Head1
import HandS.Head2
import HandS.HeadEnd
import HandS.HeadHook1
import HandS.HeadHook2
import HandS.HeadHook3
import HandS.HeadHook4
import PySem.Challenge.RW_unseenwrites_k95_words
set_option Elab.async false
set_option linter.all false
set_option maxRecDepth 100000
set_option maxHeartbeats 4000000
namespace Ub
open PySem PySem.Spec PyProof.Rows L2
section
variable {X : Cx}
/-! ### rules that the layer lacks -/
/-- xs[i] as a value behind an operator's store, i not below 0 -/
theorem get_list : PGet X (fun x y H Q => ∃ p xs i v, x = .ref p ∧ y = .int i ∧ SqL X.K H p xs ∧ 0 ≤ i ∧ xs[i.toNat]? = some v ∧ Q v H) := by
  intro pins s σ H x y v u Q I rx ry h
  obtain ⟨p, xs, i, z, rfl, rfl, hq, h0, he, q⟩ := h
  cases rx
  obtain ⟨t, rfl⟩ := ry
  obtain ⟨its, r, pl, hz⟩ := I.list hq
  obtain ⟨w, ew, rw'⟩ := r.get he
  have hn := line63
  have hlt : i.toNat < xs.length := (List.getElem?_eq_some_iff.mp he).1
  have fin : EP X pins σ Q w s := ⟨z, H, I, rw', q⟩
  exact wpAny_getItem_list pl.isList h0 (by omega) (by simpa using ew) fin
/-- a text times a number -/
theorem op_mul_si : OpR X (binaryOp .Mult) (fun x y H Q => ∃ (z : Str) (n : Int) (L N : Nat), x = .str z ∧ y = .int n ∧ z.length ≤ L ∧ 0 ≤ n ∧ n ≤ (N : Int) ∧ N ≤ 16777216 ∧ L * N ≤ 16777216 ∧ Q (.str (Txt.mul z n)) H) := by
  intro pins s σ H x y v u Q I rx ry h
  obtain ⟨z, n, L, N, rfl, rfl, h1, h0, h2, h3, h4, q⟩ := h
  obtain ⟨t, rfl⟩ := rx
  obtain ⟨t', rfl⟩ := ry
  exact SB.mul (mulOk_of L N h1 h2 (by omega) h3 h4) fun t' k => ⟨.str (Txt.mul z n), H, I.tok _, ⟨_, rfl⟩, q⟩
theorem signs_vals (x : Str) : ∀ (acc : List Value) (i : Nat), (∀ (j : Nat) v, acc[j]? = some v → SignAt x (i + j) v) → acc.length + i = x.cps.size → Vals ((x.cps.toList.drop i).map fun c => V.str ⟨#[c]⟩) acc
  | [], i, _, hl => by
    have e : x.cps.toList.drop i = [] := List.drop_of_length_le (by simp at hl ⊢; omega)
    rw [e]
    exact .nil
  | v :: r, i, h, hl => by
    obtain ⟨c, u, e1, e2⟩ := h 0 v rfl
    have e3 : x.cps.toList[i]? = some c := by simpa using e1
    have hi : i < x.cps.toList.length := (List.getElem?_eq_some_iff.mp e3).1
    rw [List.drop_eq_getElem_cons hi, List.map_cons]
    have e4 : x.cps.toList[i] = c := (List.getElem?_eq_some_iff.mp e3).2
    rw [e4]
    refine .cons ⟨u, e2⟩ (signs_vals x r (i + 1) (fun j w e => ?_) (by simp at hl ⊢; omega))
    have := h (j + 1) w (by simpa using e)
    rw [show i + 1 + j = i + (j + 1) by omega]
    exact this
/-- list(text) -/
theorem call_list_str (hc : X.calm = true) : CallR X (.type "list") (fun xs H Q => ∃ z : Str, xs = [.str z] ∧ z.length ≤ sizeLine ∧ ∀ l, H l = none → Q (.ref l) (upd H l (.lst (z.cps.toList.map fun c => V.str ⟨#[c]⟩)))) := by
  intro pins s σ H xs us Q I r h
  obtain ⟨z, rfl, hz, q⟩ := h
  obtain ⟨u, rfl, t, rfl⟩ := vals1 r
  have hz2 : z.cps.size ≤ sizeLine := hz
  refine PySem.call_list_str (I.ok.hd hc) z t (fun h' tk acc' c' kp e hacc => ?_) hz2
  have hv : Vals (z.cps.toList.map fun c => V.str ⟨#[c]⟩) acc'.toList := by
    have := signs_vals z acc'.toList 0 (fun j v hj => by
      rw [Nat.zero_add]
      exact hacc.2 j v (by simpa using hj)) (by simpa using hacc.1)
    simpa using this
  refine ⟨.ref s.heap.objs.size, upd H s.heap.objs.size (.lst (z.cps.toList.map fun c => V.str ⟨#[c]⟩)), I.laid (t' := tk) kp (Nat.le_refl _) (show ObjOk X.prog X.w _ _ _ (.lst (z.cps.toList.map fun c => V.str ⟨#[c]⟩)) from ⟨by simpa using hz2, acc'.toList, c', hv, by rw [Array.toArray_toList]; exact e⟩), rfl, q _ (I.hok.fresh (Nat.le_refl _))⟩
end
/-! ### a def by its name -/
structure Cal (P : Program) (w : World) (K : PySem.W.Frag) (mg : Str → Option Value) (base : Heap) (k : Nat) (x : Str) (ps : List Str) (sp : Sp) : Prop where
  ex : ∃ f fd, FnOk P w K mg base CX0 k f fd ps sp ∧ mg x = some (.ref f) ∧ PySem.W.keepIn K (.ref f) = true ∧ Binds K fd ps []
section
variable {X : Cx} {k : Nat} {x : Str} {ps : List Str} {sp : Sp} {e : Expr} {es : List Expr} {p pos : Pos} {t : TA}
theorem pe_cal (C : Cal X.prog X.w X.K X.mg X.base k x ps sp) (hr : Room k X.A) (hg : Gl X x)
    (ha : PA X (e :: es) t) (hdb : (x == ("__debug__" : Str)) = false := by decide) (he : starEach (e :: es) X.env = (false, eval e X.env) :: starEach es X.env := by rfl) (hpl : (backTo pos (starEach es X.env)).any (·.1) = false := by rfl) :
    PE X (.Call (.Name x p) (e :: es) [] pos) (tCall sp [] E0 t) := by
  obtain ⟨f, fd, F, hm, hk, hb⟩ := C.ex
  exact pe_call F hr hg hm hk hb .nil pass0 ha hdb he hpl
theorem Cal.mono {P : Program} {w : World} {K : PySem.W.Frag} {mg : Str → Option Value} {base : Heap} {j k : Nat} (C : Cal P w K mg base j x ps sp) (h : j ≤ k) : Cal P w K mg base k x ps sp := by
  obtain ⟨f, fd, F, hm, hk, hb⟩ := C.ex
  exact ⟨f, fd, F.mono h, hm, hk, hb⟩
end
/-! ### heaps -/
theorem same_upd {H : Hp} {p : Addr} {o : HO} (h : H p = none) : Same H (upd H p o) := fun b x e => by
  rw [upd_ne (ne_of_none e h)]
  exact e
theorem Same.tup {K : PySem.W.Frag} {H H' : Hp} {a : Addr} {xs : List V} (e : Same H H') (h : SqT K H a xs) : SqT K H' a xs := by
  rcases h with (h | ⟨o, h⟩) | h
  · exact .inl (.inl (e _ _ h))
  · exact .inl (.inr ⟨o, e _ _ h⟩)
  · exact .inr h
/-! ### the rules with the written part named -/
section
variable {X : Cx} {K : PySem.W.Frag}
theorem op_in_seqK (K : PySem.W.Frag) (e : X.K = K := by rfl) : OpR X (compareOp .In) (rIn K false) := e ▸ op_in_seq
theorem op_notIn_seqK (K : PySem.W.Frag) (e : X.K = K := by rfl) : OpR X (compareOp .NotIn) (rIn K true) := e ▸ op_notIn_seq
theorem op_eqDK (K : PySem.W.Frag) (hu : X.A.units + 64 < cLine) (e : X.K = K := by rfl) : OpR X (compareOp .Eq) (rEqD K) := e ▸ op_eqD hu
theorem op_neDK (K : PySem.W.Frag) (hu : X.A.units + 64 < cLine) (e : X.K = K := by rfl) : OpR X (compareOp .NotEq) (rNeD K) := e ▸ op_neD hu
theorem op_catAK (K : PySem.W.Frag) (e : X.K = K := by rfl) : OpR X (binaryOp .Add) (rCatA K) := e ▸ op_catA
theorem ix_listK (K : PySem.W.Frag) (e : X.K = K := by rfl) : IxR X (rIxL K) := e ▸ ix_list
theorem ix_tupK (K : PySem.W.Frag) (e : X.K = K := by rfl) : IxR X (rIxT K) := e ▸ ix_tup
theorem sl_listK (K : PySem.W.Frag) (e : X.K = K := by rfl) : SlR X (rSlL K) := e ▸ sl_list
theorem sl_tupAK (K : PySem.W.Frag) (e : X.K = K := by rfl) : SlR X (rSlA K) := e ▸ sl_tupA
def rLenQ (K : PySem.W.Frag) : List V → Hp → VK → Prop := fun xs H Q => ∃ p ys, xs = [.ref p] ∧ (SqL K H p ys ∨ SqT K H p ys) ∧ Q (.int ys.length) H
theorem call_len_seqK (K : PySem.W.Frag) (e : X.K = K := by rfl) : CallR X (.builtin "len") (rLenQ K) := e ▸ call_len_seq
def rListQ (K : PySem.W.Frag) : List V → Hp → VK → Prop := fun xs H Q => ∃ p ys, xs = [.ref p] ∧ (SqL K H p ys ∨ SqT K H p ys) ∧ ∀ l, H l = none → Q (.ref l) (upd H l (.lst ys))
theorem call_list_ofK (K : PySem.W.Frag) (e : X.K = K := by rfl) : CallR X (.type "list") (rListQ K) := e ▸ call_list_of
def rTupQ (K : PySem.W.Frag) : List V → Hp → VK → Prop := fun xs H Q => ∃ p ys, xs = [.ref p] ∧ ((SqL K H p ys ∧ ∀ l, H l = none → Q (.ref l) (upd H l (.tup ys))) ∨ (SqT K H p ys ∧ Q (.ref p) H))
theorem call_tuple_ofK (K : PySem.W.Frag) (e : X.K = K := by rfl) : CallR X (.type "tuple") (rTupQ K) := e ▸ call_tuple_of
theorem call_isiK' (K : PySem.W.Frag) (e : X.K = K := by rfl) : CallR X (.builtin "isinstance") (rIsi K) := e ▸ call_isi
theorem cr_allK (K : PySem.W.Frag) (hc : X.calm = true) (e : X.K = K := by rfl) : CallR X (.builtin "all") (rAll K) := e ▸ cr_all hc
theorem cr_anyK (K : PySem.W.Frag) (hc : X.calm = true) (e : X.K = K := by rfl) : CallR X (.builtin "any") (rAny K) := e ▸ cr_any hc
theorem cr_sumK (K : PySem.W.Frag) (hc : X.calm = true) (e : X.K = K := by rfl) : CallR X (.builtin "sum") (rSum K) := e ▸ cr_sum hc
theorem cr_maxK (K : PySem.W.Frag) (hc : X.calm = true) (e : X.K = K := by rfl) : CallR X (.builtin "max") (rMax K) := e ▸ cr_max hc
theorem cr_minK (K : PySem.W.Frag) (hc : X.calm = true) (e : X.K = K := by rfl) : CallR X (.builtin "min") (rMin K) := e ▸ cr_min hc
def rGetL (K : PySem.W.Frag) : V → V → Hp → VK → Prop := fun x y H Q => ∃ p xs i v, x = .ref p ∧ y = .int i ∧ SqL K H p xs ∧ 0 ≤ i ∧ xs[i.toNat]? = some v ∧ Q v H
theorem get_listK (K : PySem.W.Frag) (e : X.K = K := by rfl) : PGet X (rGetL K) := e ▸ get_list
theorem pi_listK (K : PySem.W.Frag) {tg l : Expr} {tl : TE} (hl : PE X l tl) (e : X.K = K := by rfl) : PI X tg l (iList K tl) := e ▸ pi_list hl
theorem pi_tupK (K : PySem.W.Frag) {tg l : Expr} {tl : TE} (hl : PE X l tl) (e : X.K = K := by rfl) : PI X tg l (iTup K tl) := e ▸ pi_tup hl
theorem pt_truthK (K : PySem.W.Frag) {a : Expr} {ta : TE} (ha : PE X a ta) (he : ∀ whole, isTrue a X.env whole = (do let v ← whole; standAt a.pos; holding [v] (truthy v))) (e : X.K = K := by rfl) : PT X a (fun σ H Q => ta σ H fun x H' => ∃ k, TruV K x H' k ∧ Q k H') := e ▸ pt_truth ha he
theorem pe_fldK (K : PySem.W.Frag) {e0 : Expr} {ta : TE} {f : Str} {pos : Pos} (he : PE X e0 ta) (hb : attributeBase e0 f X.env (eval e0 X.env) = eval e0 X.env) (e : X.K = K := by rfl) : PE X (.Attribute e0 f pos) (tFld K ta f) := e ▸ pe_fld he hb
end
/-- the heap by a name -/
theorem absH {G : Hp → Prop} {H' : Hp} (h : ∀ H'', H'' = H' → G H'') : G H' := h _ rfl
/-! ### ways that meet -/
theorem joinE {te : TE} {σ : L2.St} {H : Hp} {Q : VK} (R : VK) (hR : ∀ Q' : VK, (∀ v H', R v H' → Q' v H') → te σ H Q') (hQ : ∀ v H', R v H' → Q v H') : te σ H Q := hR Q hQ
theorem asgJ {te : TE} {g : TG} {D : Ends} {σ : L2.St} {H : Hp} (R : VK) (hR : ∀ Q' : VK, (∀ v H', R v H' → Q' v H') → te σ H Q') (hQ : ∀ v H', R v H' → g v σ H' D.nx) : tAsg te g D σ H := hR _ hQ
theorem asgS {te : TE} {g : TG} {u : TS} {D : Ends} {σ : L2.St} {H : Hp} (R : VK) (hR : ∀ Q' : VK, (∀ v H', R v H' → Q' v H') → te σ H Q') (hQ : ∀ v H', R v H' → g v σ H' (u D)) : tSeq (tAsg te g) u D σ H := hR _ hQ
theorem seqJ {t u : TS} {D : Ends} {σ : L2.St} {H : Hp} (R : L2.St → Hp → Prop) (hR : ∀ D' : Ends, (∀ σ' H', R σ' H' → D'.nx σ' H') → D'.rt = D.rt → D'.bk = D.bk → D'.ct = D.ct → t D' σ H) (hQ : ∀ σ' H', R σ' H' → u D σ' H') : tSeq t u D σ H := hR _ hQ rfl rfl rfl
theorem nextI {D : Ends} {σ : L2.St} {H : Hp} (h : D.nx σ H) : tNext D σ H := h
theorem at0 {α : Type} {x : α} {xs : List α} : atI (x :: xs) 0 = some x := atI_nat (j := 0) rfl
theorem ix0 {n : Nat} : ixN (n + 1) 0 = some 0 := by
  unfold ixN
  rw [if_pos (by decide), if_pos (by omega)]
  rfl
/-! ### comprehensions whose elements are values of their items -/
theorem fm_take {xs : List V} {f : V → Option V} {i : Nat} {x : V} (h : xs[i]? = some x) : (xs.take (i + 1)).filterMap f = (xs.take i).filterMap f ++ (f x).toList := by
  rw [List.take_add_one, h, List.filterMap_append]
  cases e : f x <;> simp [e]
theorem fm_len (xs : List V) (f : V → Option V) : (xs.filterMap f).length ≤ xs.length := List.length_filterMap_le f xs
section
variable {K : PySem.W.Frag} {a : Addr} {g : TG} {tt : TT} {te : TE} {vs : List Nat} {σ : L2.St} {H1 : Hp} {D : Addr} {Qd : Hp → Prop}
def LcTurn (g : TG) (tt : TT) (te : TE) (vs : List Nat) (σ : L2.St) (f : V → Option V) (x : V) (H : Hp) : Prop := ∀ (Q1 : VK) (Q0 : Hp → Prop), (∀ y H', f x = some y → Same H H' → Q1 y H') → (∀ H', f x = none → Same H H' → Q0 H') →
  g x (wipe σ vs) H fun σ2 H2 => wipe σ2 vs = wipe σ vs ∧ tt σ2 H2 fun b H3 => if b = true then te σ2 H3 Q1 else Q0 H3
theorem lc_step {xs : List V} {f : V → Option V} {i : Nat} {x : V} {H : Hp} (hx : xs[i]? = some x) (hz : xs.length ≤ sizeLine) (hD : H1 D = none) (s : Same H1 H) (d : H D = some (.lst ((xs.take i).filterMap f))) (t : LcTurn g tt te vs σ f x H) :
    g x (wipe σ vs) H fun σ2 H2 => wipe σ2 vs = wipe σ vs ∧ tt σ2 H2 fun b H3 => if b = true then te σ2 H3 fun y H4 => ∃ acc, H4 D = some (.lst acc) ∧ acc.length < sizeLine ∧ (Same H1 (upd H4 D (.lst (acc ++ [y]))) ∧ (upd H4 D (.lst (acc ++ [y]))) D = some (.lst ((xs.take (i + 1)).filterMap f))) else (Same H1 H3 ∧ H3 D = some (.lst ((xs.take (i + 1)).filterMap f))) := by
  have hi : i < xs.length := (List.getElem?_eq_some_iff.mp hx).1
  refine t (fun y H4 => ∃ acc, H4 D = some (.lst acc) ∧ acc.length < sizeLine ∧ (Same H1 (upd H4 D (.lst (acc ++ [y]))) ∧ (upd H4 D (.lst (acc ++ [y]))) D = some (.lst ((xs.take (i + 1)).filterMap f)))) (fun H3 => Same H1 H3 ∧ H3 D = some (.lst ((xs.take (i + 1)).filterMap f))) (fun y H' e s' => ?_) (fun H' e s' => ?_)
  · refine ⟨_, s' _ _ d, ?_, fun b o q => ?_, ?_⟩
    · have h1 := fm_len (xs.take i) f
      rw [List.length_take] at h1
      omega
    · rw [upd_ne (ne_of_none q hD)]
      exact s' _ _ (s _ _ q)
    · rw [upd_same, fm_take hx, e]
      rfl
  · refine ⟨s.trans s', ?_⟩
    rw [fm_take hx, e, s' _ _ d]
    simp
theorem lcW {J : It} {G : Hp → Prop} {xs : List V} (w : Walk J xs.length G (YAt xs)) (f : V → Option V) (hG : ∀ H, Same H1 H → G H) (hz : xs.length ≤ sizeLine) (hD : H1 D = none) (turn : ∀ (i : Nat) x H, xs[i]? = some x → Same H1 H → LcTurn g tt te vs σ f x H)
    (done : ∀ H', Same H1 H' → H' D = some (.lst (xs.filterMap f)) → Qd H') :
    ∃ W : Nat → Nat → Hp → Prop, (∃ m, W 0 m (upd H1 D (.lst []))) ∧ ∀ i m H, W i m H →
      (J.stop i H ∧ Qd H) ∨ (J.go i H ∧ ∃ Nx : Hp → Prop, (∀ H', Nx H' → ∃ m', m' < m ∧ W (i + 1) m' H') ∧ ∀ x H', J.yld i H x H' → g x (wipe σ vs) H' fun σ2 H2 => wipe σ2 vs = wipe σ vs ∧ tt σ2 H2 fun b H3 =>
        if b = true then te σ2 H3 fun y H4 => ∃ acc, H4 D = some (.lst acc) ∧ acc.length < sizeLine ∧ Nx (upd H4 D (.lst (acc ++ [y]))) else Nx H3) :=
  lc_it w (fun i H => Same H1 H ∧ H D = some (.lst ((xs.take i).filterMap f))) ⟨same_upd hD, upd_same⟩ (fun i H _ p => hG H p.1) (fun i x H H' _ p y => by
    obtain ⟨rfl, hx⟩ := y
    exact lc_step hx hz hD p.1 p.2 (turn i x _ hx p.1)) (fun H p => done H p.1 (by have := p.2; rwa [List.take_length] at this))
end
def sgn (c : Nat) : V := .str ⟨#[c]⟩
theorem walk_strV {z : Str} : Walk (Its z) (z.cps.toList.map sgn).length (fun _ => True) (YAt (z.cps.toList.map sgn)) := by
  have e : (z.cps.toList.map sgn).length = z.cps.size := by simp
  refine ⟨fun i _ hi _ => ?_, fun _ _ => ?_, fun i H x H' hi _ y => ?_⟩
  · rw [e] at hi; exact hi
  · rw [e]; exact Nat.le_refl _
  · obtain ⟨h1, c, h2, h3⟩ := y
    refine ⟨h1, ?_⟩
    rw [List.getElem?_map, Array.getElem?_toList, h2, h3]
    rfl
theorem walk_rangeV {lo : Int} {n : Nat} : Walk (Itr lo n) ((List.range n).map fun i => V.int (lo + (i : Nat))).length (fun _ => True) (YAt ((List.range n).map fun i => V.int (lo + (i : Nat)))) := by
  have e : ((List.range n).map fun i => V.int (lo + (i : Nat))).length = n := by simp
  refine ⟨fun i _ hi _ => ?_, fun _ _ => ?_, fun i H x H' hi _ y => ?_⟩
  · rw [e] at hi; exact hi
  · rw [e]; exact Nat.le_refl _
  · obtain ⟨h1, h2⟩ := y
    refine ⟨h1, ?_⟩
    rw [e] at hi
    rw [List.getElem?_map, List.getElem?_range hi, h2]
    rfl
/-- a function of ints as one of values -/
def liftI (h : Int → Option Int) : V → Option V
  | .int i => (h i).map V.int
  | _ => none
theorem fm_lift (h : Int → Option Int) : ∀ ns : List Int, (ns.map V.int).filterMap (liftI h) = (ns.filterMap h).map V.int
  | [] => rfl
  | n :: r => by
    rw [List.map_cons, List.filterMap_cons, List.filterMap_cons, fm_lift h r]
    have e : liftI h (V.int n) = (h n).map V.int := rfl
    rw [e]
    cases h n <;> rfl
theorem cut_map {α β : Type} (f : α → β) (xs : List α) (lo hi : Option Int) : ∃ ys : List α, ys.length ≤ xs.length ∧ (∀ y ∈ ys, y ∈ xs) ∧ ((xs.map f).drop (HT.sIx (xs.map f).length 0 lo)).take (HT.sIx (xs.map f).length (xs.map f).length hi - HT.sIx (xs.map f).length 0 lo) = ys.map f := by
  refine ⟨(xs.drop (HT.sIx (xs.map f).length 0 lo)).take (HT.sIx (xs.map f).length (xs.map f).length hi - HT.sIx (xs.map f).length 0 lo), ?_, fun y hy => List.mem_of_mem_drop (List.mem_of_mem_take hy), ?_⟩
  · rw [List.length_take, List.length_drop]
    omega
  · rw [List.map_take, List.map_drop]
theorem cutV_ints (ns : List Int) (lo hi : Option Int) : ∃ ms : List Int, ms.length ≤ ns.length ∧ (∀ y ∈ ms, y ∈ ns) ∧ cutV (ns.map V.int) lo hi = ms.map V.int := cut_map V.int ns lo hi
/-- a function of signs as one of values -/
def liftS (h : Nat → Option V) : V → Option V
  | .str s => (match s.cps.toList with
    | [c] => h c
    | _ => none)
  | _ => none
theorem liftS_sgn (h : Nat → Option V) (c : Nat) : liftS h (sgn c) = h c := rfl
theorem fm_liftS (h : Nat → Option V) : ∀ cs : List Nat, (cs.map sgn).filterMap (liftS h) = cs.filterMap h
  | [] => rfl
  | c :: r => by
    rw [List.map_cons, List.filterMap_cons, List.filterMap_cons, fm_liftS h r, liftS_sgn]
/-! ### tests whose answer is known -/
theorem iteY {p : Prop} [Decidable p] {A B : Prop} (hp : p) (h : A) : if decide p = true then A else B := by
  rw [decide_eq_true hp]
  exact iteT h
theorem iteN {p : Prop} [Decidable p] {A B : Prop} (hp : ¬ p) (h : B) : if decide p = true then A else B := by
  rw [decide_eq_false hp]
  exact iteF h
theorem iteNY {p : Prop} [Decidable p] {A B : Prop} (hp : ¬ p) (h : A) : if (!decide p) = true then A else B := by
  rw [decide_eq_false hp]
  exact iteT h
theorem iteNN {p : Prop} [Decidable p] {A B : Prop} (hp : p) (h : B) : if (!decide p) = true then A else B := by
  rw [decide_eq_true hp]
  exact iteF h
theorem iteE {b c : Bool} {A B : Prop} (e : b = c) (h1 : c = true → A) (h2 : c = false → B) : if b = true then A else B := by
  subst e
  cases b with
  | true => exact iteT (h1 rfl)
  | false => exact iteF (h2 rfl)
theorem dI (a b : Int) : decide (V.int a = V.int b) = decide (a = b) := by
  by_cases h : a = b
  · rw [h]; simp
  · rw [decide_eq_false h, decide_eq_false fun e => h (V.int.inj e)]
/-! ### the layer's ops as steps -/
section
variable {K : PySem.W.Frag} {H : Hp} {Q : VK} {p : Addr} {xs : List V} {i : Int} {v : V}
theorem ixl (h : H p = some (.lst xs)) (ha : atI xs i = some v) (q : Q v H) : rIxL K (.ref p) (.int i) H Q := ⟨p, xs, i, v, rfl, rfl, .inl (.inl h), ha, q⟩
theorem ixt (h : H p = some (.tup xs)) (ha : atI xs i = some v) (q : Q v H) : rIxT K (.ref p) (.int i) H Q := ⟨p, xs, i, v, rfl, rfl, .inl (.inl h), ha, q⟩
end
end Ub

namespace K95
open PySem PySem.Spec PyProof.Rows L2
def topS (i : Nat) : Stmt := PySem.Challenge.pw_unseenwrites_k95_words.main.body.getD i (.Pass ⟨0, 0, 0, 0⟩)
abbrev s_is_word : Stmt := topS 3
abbrev s_start : Stmt := topS 5
abbrev s_draw : Stmt := topS 6
abbrev s_of : Stmt := topS 7
abbrev s_word : Stmt := topS 8
abbrev s_odd : Stmt := topS 9
abbrev s_good : Stmt := topS 10
abbrev s_law : Stmt := topS 11
def dd (x : Str) (st : Stmt) : He.DefD := ⟨(x, none), x, x, defArgs st, defBody st, defScope st, [], []⟩
def fn : List He.DefD := [dd "is_word" s_is_word, dd "_law_start" s_start, dd "_law_draw" s_draw, dd "_law_of" s_of, dd "_law_word" s_word, dd "_law_odd" s_odd, dd "_law_good" s_good, dd "law" s_law]
def fa : List He.Fa := [.glo "is_word", .glo "_law_start", .glo "_law_draw", .glo "_law_of", .glo "_law_word", .glo "_law_odd", .glo "_law_good", .glo "law", .glo "KEPT_WORDS", .str "LETTERS" "abcdefghijklmnopqrstuvwxyz",
  .free "isinstance", .free "str", .free "len", .free "all", .free "int", .free "abs", .free "range", .free "list", .free "bool"]
def kept : List Str := ["document", "update", "set", "new", "edit", "merge", "then", "old", "copy"]
def ex (K : PySem.W.Frag) : Bool := He.tupB K "KEPT_WORDS" (kept.map He.Dv.str)
abbrev R : PySem.W.OpenRow := PySem.W.OpenLaw.row PySem.Challenge.rw_unseenwrites_k95_words
abbrev hk : PySem.W.Hook := He.hookX 5 fa fn [] [] ex
def ob (s : PySem.W.SharedT) : He.AlX := He.obsX 5 fa fn [] [] ex (HandSHeadRun.getT s)
theorem ob_eq (s : PySem.W.SharedT) : ob s = hk.obs s.abs := He.obsX_eq (HandSHeadRun.getT_eq s)
abbrev loose : List Str := ["__name__", "LETTERS", "KEPT_WORDS", "is_word", "_law_start", "_law_draw", "_law_of", "_law_word", "_law_odd", "_law_good"]
theorem run (w : World) : HandSHeadRun.RunEq R (PySem.W.view R.prog [11]) hk ob 800 loose w := by
  intro os
  kernel_rfl
end K95

namespace K95
open PySem PySem.Spec PyProof.Rows L2 Ub
/-! ### the law's own state -/
structure StAt (H : Hp) (st g l : Addr) : Prop where
  ex : ∃ (gs ls : List Int) (c a : Int), H st = some (.lst [.ref g, .ref l, .int c, .int a]) ∧ H g = some (.lst (gs.map V.int)) ∧ H l = some (.lst (ls.map V.int)) ∧ gs.length ≤ 63 ∧ ls.length ≤ 63 ∧ 0 ≤ a ∧ a < 4611686018427387904
  n1 : st ≠ g
  n2 : st ≠ l
  n3 : g ≠ l
def Kp (st g l : Addr) (H H' : Hp) : Prop := ∀ b o, H b = some o → b ≠ st → b ≠ g → b ≠ l → H' b = some o
theorem Kp.refl {st g l : Addr} (H : Hp) : Kp st g l H H := fun _ _ h _ _ _ => h
theorem Kp.trans {st g l : Addr} {H H1 H2 : Hp} (a : Kp st g l H H1) (b : Kp st g l H1 H2) : Kp st g l H H2 := fun c o h h1 h2 h3 => b c o (a c o h h1 h2 h3) h1 h2 h3
theorem Kp.of {st g l : Addr} {H H1 : Hp} (a : Same H H1) : Kp st g l H H1 := fun c o h _ _ _ => a c o h
theorem StAt.same {st g l : Addr} {H H1 : Hp} (s : StAt H st g l) (a : Same H H1) : StAt H1 st g l := by
  obtain ⟨⟨gs, ls, c, x, h1, h2, h3, r⟩, n1, n2, n3⟩ := s
  exact ⟨⟨gs, ls, c, x, a _ _ h1, a _ _ h2, a _ _ h3, r⟩, n1, n2, n3⟩
theorem StAt.back {st g l : Addr} {H H1 : Hp} (s : StAt H1 st g l) (k : Kp st g l H H1) {p : Addr} (h : H1 p = none) : H p = none := by
  obtain ⟨⟨gs, ls, c, x, h1, h2, h3, r⟩, n1, n2, n3⟩ := s
  cases e : H p with
  | none => rfl
  | some o => rw [k p o e (fun z => by rw [z, h1] at h; cases h) (fun z => by rw [z, h2] at h; cases h) (fun z => by rw [z, h3] at h; cases h)] at h; cases h
structure Tx (mg : Str → Option Value) : Prop where
  int : mg "int" = none
  len : mg "len" = none
  abs : mg "abs" = none
  range : mg "range" = none
  list : mg "list" = none
  isinstance : mg "isinstance" = none
  str : mg "str" = none
  bool : mg "bool" = none
  all : mg "all" = none
theorem small63 {n : Nat} (h : n ≤ 63) : n ≤ sizeLine := Nat.le_trans h (by decide)
theorem m100 {x m : Int} (h : 0 < m) (h2 : m ≤ 1000000000000000000000000000000) : CDivW x m := by
  have e : (2 : Nat) ^ 100 = 1267650600228229401496703205376 := by decide
  exact wide_div (b := 100) h (by omega) (by decide) (by decide)
structure DrI (H0 H : Hp) (st g l : Addr) (gs ls : List Int) (c a : Int) : Prop where
  h1 : H st = some (.lst [.ref g, .ref l, .int c, .int a])
  h2 : H g = some (.lst (gs.map V.int))
  h3 : H l = some (.lst (ls.map V.int))
  lg : gs.length ≤ 63
  kp : Kp st g l H0 H
theorem mulR {i j : Int} (h : -18446744073709551616 < j ∧ j < 18446744073709551616) : CMul i j := .inr h
def spDraw (st g l : Addr) (m : Int) (H : Hp) (Q : VK) : Prop := ∀ d H', 0 ≤ d → d < m → StAt H' st g l → Kp st g l H H' → Q (.int d) H'
def sp_draw : Sp := fun vs H Q _ => ∃ st g l m, vs = [.ref st, .int m] ∧ 0 < m ∧ m ≤ 1000000000000000000000000000000 ∧ StAt H st g l ∧ spDraw st g l m H Q
section
variable {P : Program} {w : World} {K : PySem.W.Frag} {mg : Str → Option Value} {base : Heap}
theorem sc_draw : FnScope ["_law_state", "_law_many", "_law_great", "_law_lesser", "_law_digit", "_law_own", "_law_mixed"] ["_law_state", "_law_many"] (defScope s_draw) := ⟨rfl, rfl, rfl, by decide +kernel, rfl, by decide +kernel, by decide +kernel⟩
theorem ok_draw {f : Addr} {fd : FuncData} {k : Nat} (F : FunD K "_law_draw" "_law_draw" (defArgs s_draw) (defBody s_draw) (defScope s_draw) [] [] f fd) (T : Tx mg) : FnOk P w K mg base CX0 (k + 1) f fd ["_law_state", "_law_many"] sp_draw := by
  refine F.ok sc_draw (fun vs H Q E h => ?_) (fun cdv A outer s H vs Q E hr h => ?_)
  · obtain ⟨st, g, l, m, rfl, _⟩ := h
    rfl
  · obtain ⟨st, g, l, m, rfl, m0, m1, S, q⟩ := h
    have hu := hu_of hr
    refine ⟨_, PSs.nox (pss_cons (ps_augS (pv 0) pe_int (get_listK K) pe_int ip_add set_list)
      (pss_cons (ps_par (i := 2) (j := 3) (by rfl) sc_draw.nd rfl rfl (by decide) rfl rfl (pa_cons (pe_ix (ix_listK K) (pv 0) pe_int (fun _ _ => rfl)) (pa_cons (pe_ix (ix_listK K) (pv 0) pe_int (fun _ _ => rfl)) pa_nil)) (by rfl))
      (pss_cons (ps_while PassesOwn.never (PW.pt (pw_and (pt_truthK K (pv 2) (by intro _; rfl)) (pw_and1 (pt_cmpR op_eq (pe_ix (ix_listK K) (pv 2) pe_int (fun _ _ => rfl)) pe_int (nomark _)))))
        (pss_one (ps_expr (pe_bm PySem.F.plainAttrs_list PySem.F.slot_list_pop PySem.F.type_list_pop mt_popAt (pv 2) (pa_cons pe_int pa_nil)))))
      (pss_cons (ps_if (pt_truthK K (pv 2) (by intro _; rfl))
        (pss_cons (ps_set (i := 4) sc_draw.nd rfl (by first | exact Or.inl rfl | exact Or.inr rfl) (pe_op op_mod (pe_callTy call_int1 (by rfl) T.int (by decide +kernel) (pa_cons (pe_ix (ix_listK K) (pv 2) pe_int (fun _ _ => rfl)) pa_nil)) (pv 1)))
          (pss_cons (ps_asg (pe_op op_fdivW (pe_ix (ix_listK K) (pv 2) pe_int (fun _ _ => rfl)) (pv 1)) (pg_sub (pv 2) pe_int set_list))
          (pss_one (ps_ret (pv 4)))))
        pss_nil)
      (pss_cons (ps_set (i := 5) sc_draw.nd rfl (by first | exact Or.inl rfl | exact Or.inr rfl) (pe_ifExp (pt_truthK K (pv 3) (by intro _; rfl)) (pe_ix (ix_listK K) (pv 3) (pe_op op_mod (pe_callTy call_int1 (by rfl) T.int (by decide +kernel) (pa_cons (pe_ix (ix_listK K) (pv 0) pe_int (fun _ _ => rfl)) pa_nil)) (pe_callB (call_len_seqK K) (by rfl) T.len (by decide +kernel) (pa_cons (pv 3) pa_nil))) (fun _ _ => rfl)) pe_int))
      (pss_cons (ps_asg (pe_op op_mod (pe_callTy call_int1 (by rfl) T.int (by decide +kernel) (pa_cons (pe_op op_add (pe_op op_add (pe_op op_add (pe_op op_mul (pe_ix (ix_listK K) (pv 0) pe_int (fun _ _ => rfl)) pe_int) (pe_op op_mul (pv 5) pe_int)) (pe_op op_mul (pe_ix (ix_listK K) (pv 0) pe_int (fun _ _ => rfl)) pe_int)) pe_int) pa_nil)) pe_int) (pg_sub (pv 0) pe_int set_list))
      (pss_cons (ps_set (i := 6) sc_draw.nd rfl (by first | exact Or.inl rfl | exact Or.inr rfl) (pe_op op_mod (pe_callTy call_int1 (by rfl) T.int (by decide +kernel) (pa_cons (pe_op op_add (pe_op op_mul (pe_ix (ix_listK K) (pv 0) pe_int (fun _ _ => rfl)) (pe_ix (ix_listK K) (pv 0) pe_int (fun _ _ => rfl))) (pe_op op_mul (pe_ix (ix_listK K) (pv 0) pe_int (fun _ _ => rfl)) pe_int)) pa_nil)) pe_int))
      (pss_one (ps_ret (pe_op op_mod (pe_callTy call_int1 (by rfl) T.int (by decide +kernel) (pa_cons (pe_op op_fdivW (pv 6) pe_int) pa_nil)) (pv 1))))))))))), ?_⟩
    obtain ⟨⟨gs, ls, c, a, h1, h2, h3, lg, ll, a0, a1⟩, n1, n2, n3⟩ := S
    -- state[2] += 1
    refine ⟨.ref st, rfl, st, _, 2, .int c, rfl, rfl, .inl (.inl h1), by decide, rfl, c, 1, rfl, rfl, st, _, 2, 2, rfl, rfl, h1, rfl, ?_⟩
    have e1 : (upd H st (.lst [.ref g, .ref l, .int (c + 1), .int a])) st = some (.lst [.ref g, .ref l, .int (c + 1), .int a]) := upd_same
    -- great, lesser = state[0], state[1]
    refine ⟨.ref st, rfl, st, _, 0, .ref g, rfl, rfl, .inl (.inl e1), rfl, .ref st, rfl, st, _, 1, .ref l, rfl, rfl, .inl (.inl e1), rfl, .ref g, .ref l, rfl, ?_⟩
    -- while great and great[0] == 0
    refine ⟨fun n σ H1 => ∃ gs', n = gs'.length ∧ σ = [some (.ref st), some (.int m), some (.ref g), some (.ref l), none, none, none] ∧ DrI H H1 st g l gs' ls (c + 1) a, ⟨_, gs, rfl, rfl, e1, ?_, ?_, lg, ?_⟩, ?_⟩
    · rw [upd_ne n1.symm]; exact h2
    · rw [upd_ne n2.symm]; exact h3
    · intro b o e b1 _ _; rw [upd_ne b1]; exact e
    rintro n σ H1 ⟨gs', rfl, rfl, I⟩
    cases gs' with
    | nil =>
      refine ⟨.ref g, rfl, false, .inl ⟨_, .inl (.inl I.h2), rfl⟩, ?_⟩
      refine iteF ?_
      refine iteF ?_
      -- if great
      refine ⟨.ref g, rfl, false, .inl ⟨_, .inl (.inl I.h2), rfl⟩, iteF ?_⟩
      -- own
      dsimp only [tNext]
      refine asgS (fun v H' => H' = H1 ∧ ∃ o : Int, v = .int o) (fun Q' hQ' => ?_) ?_
      · cases ls with
        | nil => exact ⟨.ref l, rfl, false, .inl ⟨_, .inl (.inl I.h3), rfl⟩, iteF (hQ' _ _ ⟨rfl, 5, rfl⟩)⟩
        | cons y ys =>
          have h0 : (0 : Int) < (((y :: ys).map V.int).length : Int) := by rw [List.length_map, List.length_cons]; omega
          have h5 := Int.emod_nonneg (c + 1) (Int.ne_of_gt h0)
          have h6 := Int.emod_lt_of_pos (c + 1) h0
          obtain ⟨j, hj⟩ : ∃ j : Nat, (c + 1) % (((y :: ys).map V.int).length : Int) = (j : Int) := ⟨_, (Int.toNat_of_nonneg h5).symm⟩
          have hlt : j < (y :: ys).length := by
            rw [hj, List.length_map] at h6
            omega
          have hget : ((y :: ys).map V.int)[j]? = some (.int (y :: ys)[j]) := by
            rw [List.getElem?_map, List.getElem?_eq_getElem hlt]
            rfl
          refine ⟨.ref l, rfl, true, .inl ⟨_, .inl (.inl I.h3), rfl⟩, iteT ?_⟩
          refine ⟨.ref l, rfl, .ref st, rfl, st, _, 2, .int (c + 1), rfl, rfl, .inl (.inl I.h1), rfl, .inl ⟨_, rfl, .ref l, rfl, l, _, rfl, .inl (.inl (.inl I.h3)), _, _, rfl, rfl, h0, l, _, _, .int (y :: ys)[j], rfl, rfl, .inl (.inl I.h3), at_of hj hget, hQ' _ _ ⟨rfl, (y :: ys)[j], rfl⟩⟩⟩
      rintro v H' ⟨rfl, o, rfl⟩
      -- state[3] = ..
      refine ⟨.ref st, rfl, st, _, 3, .int a, rfl, rfl, .inl (.inl I.h1), rfl, a, 69621, rfl, rfl, mulR (by decide), .int o, rfl, o, 48271, rfl, rfl, mulR (by decide), _, _, rfl, rfl, .ref st, rfl, st, _, 2, .int (c + 1), rfl, rfl, .inl (.inl I.h1), rfl, _, _, rfl, rfl, mulR (by decide), _, _, rfl, rfl, _, _, rfl, rfl, .inl ⟨_, rfl, _, _, rfl, rfl, by show (0 : Int) < 2305843009213693951; decide, ?_⟩⟩
      dsimp only
      generalize ha' : (a * 69621 + o * 48271 + (c + 1) * 40014 + 7) % 2305843009213693951 = a'
      have b0 : 0 ≤ a' := by rw [← ha']; exact Int.emod_nonneg _ (by decide)
      have b1 : a' < 2305843009213693951 := by rw [← ha']; exact Int.emod_lt_of_pos _ (by decide)
      refine ⟨.ref st, rfl, st, _, 3, 3, rfl, rfl, I.h1, rfl, ?_⟩
      have e2 : (upd H' st (.lst [.ref g, .ref l, .int (c + 1), .int a'])) st = some (.lst [.ref g, .ref l, .int (c + 1), .int a']) := upd_same
      -- mixed
      refine ⟨.ref st, rfl, st, _, 3, .int a', rfl, rfl, .inl (.inl e2), rfl, .ref st, rfl, st, _, 3, .int a', rfl, rfl, .inl (.inl e2), rfl, a', a', rfl, rfl, mulR (by omega), .ref st, rfl, st, [.ref g, .ref l, .int (c + 1), .int a'], 2, .int (c + 1), rfl, rfl, .inl (.inl e2), rfl, _, _, rfl, rfl, mulR (by decide), _, _, rfl, rfl, .inl ⟨_, rfl, _, _, rfl, rfl, by show (0 : Int) < 2305843009213693921; decide, ?_⟩⟩
      -- return
      refine ⟨_, rfl, _, _, rfl, rfl, m100 (by decide) (by decide), .inl ⟨_, rfl, .int m, rfl, _, _, rfl, rfl, m0, ?_⟩⟩
      refine q _ _ (Int.emod_nonneg _ (Int.ne_of_gt m0)) (Int.emod_lt_of_pos _ m0) ⟨⟨[], ls, c + 1, a', e2, ?_, ?_, by decide, ll, b0, by omega⟩, n1, n2, n3⟩ ?_
      · rw [upd_ne n1.symm]; exact I.h2
      · rw [upd_ne n2.symm]; exact I.h3
      · intro b o e b1 b2 b3; rw [upd_ne b1]; exact I.kp b o e b1 b2 b3
    | cons z r =>
      refine ⟨.ref g, rfl, true, .inl ⟨_, .inl (.inl I.h2), rfl⟩, ?_⟩
      refine iteT ?_
      refine ⟨.ref g, rfl, g, _, 0, .int z, rfl, rfl, .inl (.inl I.h2), at0, rfl, _, rfl, ite2 (fun e => ?_) (fun e => ?_)⟩
      · -- great.pop(0)
        refine ⟨fun σ' H' => σ' = [some (.ref st), some (.int m), some (.ref g), some (.ref l), none, none, none] ∧ DrI H H' st g l r ls (c + 1) a, ?_, ?_⟩
        · rintro σ' H' ⟨rfl, I'⟩
          exact ⟨r.length, Nat.lt_succ_self _, r, rfl, rfl, I'⟩
        · refine ⟨.ref g, rfl, .inl ⟨rfl, _, .inl (.inl I.h2)⟩, g, _, 0, 0, .int z, rfl, rfl, I.h2, by decide, by decide, ?_, rfl, rfl, ⟨?_, ?_, ?_, ?_, ?_⟩⟩
          · show seqIndex? 0 ((z :: r).map V.int).length = some 0
            unfold seqIndex?
            simp
          · rw [upd_ne n1]; exact I.h1
          · exact upd_same
          · rw [upd_ne n3.symm]; exact I.h3
          · have := I.lg; rw [List.length_cons] at this; omega
          · intro b o e b1 b2 b3; rw [upd_ne b2]; exact I.kp b o e b1 b2 b3
      · -- if great
        refine ⟨.ref g, rfl, true, .inl ⟨_, .inl (.inl I.h2), rfl⟩, iteT ?_⟩
        refine ⟨.ref g, rfl, g, _, 0, .int z, rfl, rfl, .inl (.inl I.h2), at0, .inl ⟨_, rfl, .int m, rfl, _, _, rfl, rfl, m0, ?_⟩⟩
        refine ⟨.ref g, rfl, g, _, 0, .int z, rfl, rfl, .inl (.inl I.h2), at0, .int m, rfl, _, _, rfl, rfl, m100 m0 m1, .ref g, rfl, g, _, 0, 0, rfl, rfl, I.h2, ix0, ?_⟩
        refine ⟨_, rfl, ?_⟩
        refine q _ _ (Int.emod_nonneg _ (Int.ne_of_gt m0)) (Int.emod_lt_of_pos _ m0) ⟨⟨(z / m) :: r, ls, c + 1, a, ?_, upd_same, ?_, I.lg, ll, a0, a1⟩, n1, n2, n3⟩ ?_
        · rw [upd_ne n1]; exact I.h1
        · rw [upd_ne n3.symm]; exact I.h3
        · intro b o e b1 b2 b3; rw [upd_ne b2]; exact I.kp b o e b1 b2 b3
end
end K95

namespace K95
open PySem PySem.Spec PyProof.Rows L2 Ub
def sp_start (K : PySem.W.Frag) : Sp := fun vs H Q _ => ∃ (a : Addr) (ns : List Int), vs = [.ref a] ∧ SqL K H a (ns.map V.int) ∧ ns.length ≤ 63 ∧ ∀ st g l H', H st = none → H g = none → H l = none → StAt H' st g l → Same H H' → Q (.ref st) H'
def absI (i : Int) : Int := if i < 0 then -i else i
section
variable {P : Program} {w : World} {K : PySem.W.Frag} {mg : Str → Option Value} {base : Heap}
theorem sc_start : FnScope ["_law_script", "_law_cells", "_law_great", "_law_lesser", "_law_cell"] ["_law_script"] (defScope s_start) := ⟨rfl, rfl, rfl, by decide +kernel, rfl, by decide +kernel, by decide +kernel⟩
theorem ok_start {f : Addr} {fd : FuncData} {k : Nat} (F : FunD K "_law_start" "_law_start" (defArgs s_start) (defBody s_start) (defScope s_start) [] [] f fd) (T : Tx mg) : FnOk P w K mg base CX0 (k + 1) f fd ["_law_script"] (sp_start K) := by
  refine F.ok sc_start (fun vs H Q E h => ?_) (fun cdv A outer s H vs Q E hr h => ?_)
  · obtain ⟨a, ns, rfl, _⟩ := h
    rfl
  · obtain ⟨a, ns, rfl, hS, hl, q⟩ := h
    refine ⟨_, PSs.nox (pss_cons (ps_setLc (i := 1) (own := [("_law_cell", 4)]) (by rfl) sc_start.nd rfl rfl (sw_true rfl rfl rfl (by decide +kernel)) (pi_listK K (pe_slice (sl_listK K) (pv 0) po_none (po_some pe_int))) (blkOk_by (N := ["_law_script", "_law_cells", "_law_great", "_law_lesser", "_law_cell"]) (sc := defScope s_start) (by decide +kernel)) (fun _ _ _ _ _ => (pg_name (i := 4) sc_start.nd rfl (by first | exact Or.inl rfl | exact Or.inr rfl))) (fun _ _ _ _ _ => pts_nil) (fun _ _ _ _ _ => (pe_callTy call_int1 (by rfl) T.int (by decide +kernel) (pa_cons (pv 4) pa_nil))))
      (pss_cons (ps_setLc (i := 2) (own := [("_law_cell", 4)]) (by rfl) sc_start.nd rfl rfl (sw_true rfl rfl rfl (by decide +kernel)) (pi_listK K (pv 1)) (blkOk_by (N := ["_law_script", "_law_cells", "_law_great", "_law_lesser", "_law_cell"]) (sc := defScope s_start) (by decide +kernel)) (fun _ _ _ _ _ => (pg_name (i := 4) sc_start.nd rfl (by first | exact Or.inl rfl | exact Or.inr rfl))) (fun _ _ _ _ _ => pts_one (pt_cmpR op_ge (pe_callB call_abs (by rfl) T.abs (by decide +kernel) (pa_cons (pv 4) pa_nil)) (pe_op op_pow pe_int pe_int) (nomark _))) (fun _ _ _ _ _ => (pe_callB call_abs (by rfl) T.abs (by decide +kernel) (pa_cons (pv 4) pa_nil))))
      (pss_cons (ps_setLc (i := 3) (own := [("_law_cell", 4)]) (by rfl) sc_start.nd rfl rfl (sw_true rfl rfl rfl (by decide +kernel)) (pi_listK K (pv 1)) (blkOk_by (N := ["_law_script", "_law_cells", "_law_great", "_law_lesser", "_law_cell"]) (sc := defScope s_start) (by decide +kernel)) (fun _ _ _ _ _ => (pg_name (i := 4) sc_start.nd rfl (by first | exact Or.inl rfl | exact Or.inr rfl))) (fun _ _ _ _ _ => pts_one (pt_cmpR op_lt (pe_callB call_abs (by rfl) T.abs (by decide +kernel) (pa_cons (pv 4) pa_nil)) (pe_op op_pow pe_int pe_int) (nomark _))) (fun _ _ _ _ _ => (pe_op op_add (pe_op op_mod (pe_callTy call_int1 (by rfl) T.int (by decide +kernel) (pa_cons (pv 4) pa_nil)) pe_int) pe_int)))
      (pss_one (ps_ret (pe_lst (pa_cons (pv 2) (pa_cons (pv 3) (pa_cons pe_int (pa_cons (pe_op op_add pe_int (pe_callB (call_len_seqK K) (by rfl) T.len (by decide +kernel) (pa_cons (pv 1) pa_nil))) pa_nil)))))))))), ?_⟩
    obtain ⟨ms, lm, _, em⟩ := cutV_ints ns none (some 63)
    -- cells
    refine ⟨.ref a, rfl, 63, rfl, a, _, rfl, hS, fun p hp => ?_⟩
    rw [em]
    have s0 := same_upd (o := .lst (ms.map V.int)) hp
    refine ⟨p, rfl, ⟨ms.map V.int, .inl (.inl upd_same)⟩, fun C hC => ?_⟩
    refine lcW (walk_list (xs := ms.map V.int)) (liftI fun i => some i) (fun H s => s.seq (.inl (.inl upd_same))) (small63 (by rw [List.length_map]; omega)) hC (fun i x H' hx s' => ?_) (fun H1 s1 d1 => ?_)
    · obtain ⟨z, hz, rfl⟩ := List.mem_map.mp (List.mem_of_getElem? hx)
      intro Q1 Q0 h1 h0
      exact ⟨rfl, _, rfl, .inl ⟨_, rfl, h1 _ _ rfl (Same.refl _)⟩⟩
    rw [fm_lift] at d1
    generalize hcs : (ms.filterMap fun i => some i) = cs at d1
    have lc : cs.length ≤ 63 := by
      have := List.length_filterMap_le (fun i : Int => some i) ms
      rw [← hcs]; omega
    -- great
    refine ⟨_, rfl, C, rfl, ⟨_, .inl (.inl d1)⟩, fun g hg => ?_⟩
    refine lcW (walk_list (xs := cs.map V.int)) (liftI fun i => if (1000000000000000000 : Int) ≤ absI i then some (absI i) else none) (fun H s => s.seq (.inl (.inl d1))) (small63 (by rw [List.length_map]; omega)) hg (fun i x H' hx s' => ?_) (fun H2 s2 d2 => ?_)
    · obtain ⟨z, hz, rfl⟩ := List.mem_map.mp (List.mem_of_getElem? hx)
      intro Q1 Q0 h1 h0
      refine ⟨rfl, _, rfl, z, rfl, 10, 18, rfl, rfl, ⟨by decide, by decide, by decide⟩, _, _, rfl, rfl, _, rfl, ?_⟩
      by_cases hge : (1000000000000000000 : Int) ≤ absI z
      · refine ite2 (fun _ => ?_) (fun e => ?_)
        · exact ⟨_, rfl, z, rfl, h1 _ _ (by show (if (1000000000000000000 : Int) ≤ absI z then some (absI z) else none).map V.int = _; rw [if_pos hge]; rfl) (Same.refl _)⟩
        · exact absurd (decide_eq_true hge) e
      · refine ite2 (fun e => ?_) (fun e => ?_)
        · exact absurd (of_decide_eq_true e) hge
        · exact h0 _ (by show (if (1000000000000000000 : Int) ≤ absI z then some (absI z) else none).map V.int = _; rw [if_neg hge]; rfl) (Same.refl _)
    rw [fm_lift] at d2
    generalize hgs : (cs.filterMap fun i => if (1000000000000000000 : Int) ≤ absI i then some (absI i) else none) = gs at d2
    have lg : gs.length ≤ 63 := by
      have := List.length_filterMap_le (fun i : Int => if (1000000000000000000 : Int) ≤ absI i then some (absI i) else none) cs
      rw [← hgs]; omega
    -- lesser
    refine ⟨_, rfl, C, rfl, ⟨_, .inl (.inl (s2 _ _ d1))⟩, fun l hl' => ?_⟩
    refine lcW (walk_list (xs := cs.map V.int)) (liftI fun i => if absI i < (1000000000000000000 : Int) then some (i % 2147483587 + 1) else none) (fun H s => s.seq (.inl (.inl (s2 _ _ d1)))) (small63 (by rw [List.length_map]; omega)) hl' (fun i x H' hx s' => ?_) (fun H3 s3 d3 => ?_)
    · obtain ⟨z, hz, rfl⟩ := List.mem_map.mp (List.mem_of_getElem? hx)
      intro Q1 Q0 h1 h0
      refine ⟨rfl, _, rfl, z, rfl, 10, 18, rfl, rfl, ⟨by decide, by decide, by decide⟩, _, _, rfl, rfl, _, rfl, ?_⟩
      by_cases hge : absI z < (1000000000000000000 : Int)
      · refine ite2 (fun _ => ?_) (fun e => ?_)
        · refine ⟨_, rfl, .inl ⟨_, rfl, _, _, rfl, rfl, by show (0 : Int) < 2147483587; decide, _, _, rfl, rfl, h1 _ _ ?_ (Same.refl _)⟩⟩
          show (if absI z < (1000000000000000000 : Int) then some (z % 2147483587 + 1) else none).map V.int = _
          rw [if_pos hge]; rfl
        · exact absurd (decide_eq_true hge) e
      · refine ite2 (fun e => ?_) (fun e => ?_)
        · exact absurd (of_decide_eq_true e) hge
        · exact h0 _ (by show (if absI z < (1000000000000000000 : Int) then some (z % 2147483587 + 1) else none).map V.int = _; rw [if_neg hge]; rfl) (Same.refl _)
    rw [fm_lift] at d3
    generalize hls : (cs.filterMap fun i => if absI i < (1000000000000000000 : Int) then some (i % 2147483587 + 1) else none) = ls at d3
    have ll : ls.length ≤ 63 := by
      have := List.length_filterMap_le (fun i : Int => if absI i < (1000000000000000000 : Int) then some (i % 2147483587 + 1) else none) cs
      rw [← hls]; omega
    -- return
    refine ⟨_, rfl, _, rfl, _, rfl, C, _, rfl, .inl (.inl (.inl (s3 _ _ (s2 _ _ d1)))), _, _, rfl, rfl, (by show 4 ≤ sizeLine; decide), fun st hst => ?_⟩
    have f1 : H1 st = none := s2.free (s3.free hst)
    have d2' := s3 _ _ d2
    refine q st g l _ (s0.free (s1.free f1)) (s0.free (s1.free hg)) (s0.free (s1.free (s2.free hl'))) ⟨⟨gs, ls, 0, _, upd_same, ?_, ?_, lg, ll, ?_, ?_⟩, (ne_of_none d2' hst).symm, (ne_of_none d3 hst).symm, ne_of_none d2 hl'⟩ ?_
    · rw [upd_ne (ne_of_none d2' hst)]; exact d2'
    · rw [upd_ne (ne_of_none d3 hst)]; exact d3
    · show (0 : Int) ≤ 17 + ((cs.map V.int).length : Int); omega
    · show (17 : Int) + ((cs.map V.int).length : Int) < 4611686018427387904; rw [List.length_map]; omega
    · exact (((s0.trans s1).trans s2).trans s3).trans (same_upd hst)
end
end K95

namespace K95
open PySem PySem.Spec PyProof.Rows L2 Ub
/-! ### words -/
def letters : Str := "abcdefghijklmnopqrstuvwxyz"
def keptV : List V := kept.map V.str
def isLet (c : Nat) : Bool := decide (c ∈ letters.cps.toList)
def isWord (z : Str) : Bool := decide (1 ≤ z.length) && (decide (z.length ≤ 8) && (z.cps.toList.all isLet && !inV (.str z) keptV))
theorem split_kept : Txt.split "document update set new edit merge then old copy" " " = kept := by decide +kernel
theorem kept_flat : keptV.all flatV = true := by decide +kernel
/-- what both readings say -/
theorem good_eq (z : Str) (h : inV (.str z) keptV = false) (h0 : ¬ z.length = 0) (h8 : ¬ 8 < z.length) : decide (((z.cps.toList.filter isLet).length : Int) = (z.length : Int)) = isWord z := by
  have e1 : decide (1 ≤ z.length) = true := decide_eq_true (by omega)
  have e2 : decide (z.length ≤ 8) = true := decide_eq_true (by omega)
  unfold isWord
  rw [e1, e2, h]
  have el : z.length = z.cps.toList.length := by simp [Str.length]
  by_cases ha : z.cps.toList.all isLet = true
  · rw [ha]
    have := List.filter_eq_self.mpr (List.all_eq_true.mp ha)
    rw [this]
    simp [el]
  · rw [Bool.not_eq_true] at ha
    rw [ha]
    simp only [Bool.false_and, Bool.and_false]
    refine decide_eq_false fun e => ?_
    have e3 : (z.cps.toList.filter isLet).length = z.cps.toList.length := by
      rw [← el]; omega
    have := List.length_filter_eq_length_iff.mp e3
    rw [List.all_eq_true.mpr this] at ha
    cases ha
theorem isWord_len {z : Str} (h : isWord z = true) : 1 ≤ z.length ∧ z.length ≤ 8 := by
  unfold isWord at h
  simp only [Bool.and_eq_true, decide_eq_true_eq] at h
  exact ⟨h.1, h.2.1⟩
def sp_of : Sp := fun vs H Q _ => ∃ st g l p xs, vs = [.ref st, .ref p] ∧ H p = some (.lst xs) ∧ p ≠ st ∧ p ≠ g ∧ p ≠ l ∧ xs ≠ [] ∧ xs.length ≤ 1000 ∧ StAt H st g l ∧ ∀ v H', v ∈ xs → StAt H' st g l → Kp st g l H H' → Q v H'
/-- a value that is no part of the program -/
def OddAt (H : Hp) (x : V) : Prop := (∃ z : Str, x = .str z ∧ z.length ≤ 10) ∨ x = .non ∨ (∃ b, x = .bl b) ∨ (∃ i, x = .int i) ∨ ∃ p xs, x = .ref p ∧ (H p = some (.lst xs) ∨ H p = some (.tup xs))
theorem OddAt.same {H H' : Hp} {x : V} (h : OddAt H x) (s : Same H H') : OddAt H' x := by
  rcases h with h | h | h | h | ⟨p, xs, h, h1 | h1⟩
  · exact .inl h
  · exact .inr (.inl h)
  · exact .inr (.inr (.inl h))
  · exact .inr (.inr (.inr (.inl h)))
  · exact .inr (.inr (.inr (.inr ⟨p, xs, h, .inl (s _ _ h1)⟩)))
  · exact .inr (.inr (.inr (.inr ⟨p, xs, h, .inr (s _ _ h1)⟩)))
def NotStr (K : PySem.W.Frag) (H : Hp) (x : V) : Prop := ∃ T : String, TyX K H x (.type T) ∧ kitB T "str" = some false
theorem OddAt.kind {K : PySem.W.Frag} {H : Hp} {x : V} (h : OddAt H x) : (∃ z : Str, x = .str z ∧ z.length ≤ 10) ∨ NotStr K H x := by
  rcases h with h | rfl | ⟨b, rfl⟩ | ⟨i, rfl⟩ | ⟨p, xs, rfl, h1 | h1⟩
  · exact .inl h
  · exact .inr ⟨_, .base .non, by decide +kernel⟩
  · exact .inr ⟨_, .base (.bl b), by decide +kernel⟩
  · exact .inr ⟨_, .base (.int i), by decide +kernel⟩
  · exact .inr ⟨_, .base (.lst h1), by decide +kernel⟩
  · exact .inr ⟨_, .base (.tup h1), by decide +kernel⟩
def sp_odd : Sp := fun vs H Q _ => ∃ st g l, vs = [.ref st] ∧ StAt H st g l ∧ ∀ v H', OddAt H' v → StAt H' st g l → Kp st g l H H' → Q v H'
def sp_is_word (K : PySem.W.Frag) : Sp := fun vs H Q _ => ∃ x, vs = [x] ∧ ((∃ z : Str, x = .str z ∧ z.length ≤ 10000 ∧ ∀ H', Same H H' → Q (.bl (isWord z)) H') ∨ (NotStr K H x ∧ ∀ H', Same H H' → Q (.bl false) H'))
def sp_good : Sp := fun vs H Q _ => ∃ z : Str, vs = [.str z] ∧ z.length ≤ 10000 ∧ ∀ H', Same H H' → Q (.bl (isWord z)) H'
theorem sz4 {n : Nat} (h : n ≤ 10000) : n ≤ sizeLine := Nat.le_trans h (by decide)
theorem szI {n : Nat} (h : n ≤ 10000) : (n : Int) < 9223372036854775808 := by omega
structure Cs (P : Program) (w : World) (K : PySem.W.Frag) (mg : Str → Option Value) (base : Heap) : Prop where
  law_draw : Cal P w K mg base 1 "_law_draw" ["_law_state", "_law_many"] sp_draw
section
variable {P : Program} {w : World} {K : PySem.W.Frag} {mg : Str → Option Value} {base : Heap}
theorem sc_of : FnScope ["_law_state", "_law_some"] ["_law_state", "_law_some"] (defScope s_of) := ⟨rfl, rfl, rfl, by decide +kernel, rfl, by decide +kernel, by decide +kernel⟩
theorem ok_of {f : Addr} {fd : FuncData} (F : FunD K "_law_of" "_law_of" (defArgs s_of) (defBody s_of) (defScope s_of) [] [] f fd) (T : Tx mg) (C : Cs P w K mg base) : FnOk P w K mg base CX0 2 f fd ["_law_state", "_law_some"] sp_of := by
  refine F.ok sc_of (fun vs H Q E h => ?_) (fun cdv A outer s H vs Q E hr h => ?_)
  · obtain ⟨st, g, l, p, xs, rfl, _⟩ := h
    rfl
  · obtain ⟨st, g, l, p, xs, rfl, hp, n1, n2, n3, h0, hz, S, q⟩ := h
    refine ⟨_, PSs.nox (pss_one (ps_ret (pe_ix (ix_listK K) (pv 1) (pe_cal C.law_draw (hr.mono (by decide)) (by rfl) (pa_cons (pv 0) (pa_cons (pe_callB (call_len_seqK K) (by rfl) T.len (by decide +kernel) (pa_cons (pv 1) pa_nil)) pa_nil))) (fun _ _ => rfl)))), ?_⟩
    refine ⟨_, rfl, _, rfl, _, rfl, p, xs, rfl, .inl (.inl (.inl hp)), st, g, l, _, rfl, ?_, ?_, S, fun d H' d0 d1 S' k => ?_⟩
    · have : 0 < xs.length := List.length_pos_iff.mpr h0
      omega
    · omega
    · have hp' := k _ _ hp n1 n2 n3
      obtain ⟨j, rfl⟩ : ∃ j : Nat, d = (j : Int) := ⟨d.toNat, by omega⟩
      have hj : j < xs.length := by omega
      exact ixl hp' (atI_nat (List.getElem?_eq_getElem hj)) (q _ _ (List.getElem_mem hj) S' k)
theorem sc_is_word : FnScope ["text", "letter"] ["text"] (defScope s_is_word) := ⟨rfl, rfl, rfl, by decide +kernel, rfl, by decide +kernel, by decide +kernel⟩
theorem ok_is_word {f aK : Addr} {fd : FuncData} {tl : Tok} (F : FunD K "is_word" "is_word" (defArgs s_is_word) (defBody s_is_word) (defScope s_is_word) [] [] f fd) (T : Tx mg) (hL : mg "LETTERS" = some (.str letters tl)) (hK : mg "KEPT_WORDS" = some (.ref aK)) (sK : ∀ H, SqT K H aK keptV) : FnOk P w K mg base CX0 1 f fd ["text"] (sp_is_word K) := by
  refine F.ok sc_is_word (fun vs H Q E h => ?_) (fun cdv A outer s H vs Q E hr h => ?_)
  · obtain ⟨x, rfl, _⟩ := h
    rfl
  · obtain ⟨x, rfl, h⟩ := h
    refine ⟨_, PSs.nox (pss_cons (ps_if (PW.pt (pw_or (pt_not (pt_val (pe_callB (call_isiK' K) (by rfl) T.isinstance (by decide +kernel) (pa_cons (pv 0) (pa_cons (pe_bltn (v := .ty "str") (by rfl) T.str (by decide +kernel) rfl) pa_nil))))) (pw_or1 (pt_not (pt_chain op_le op_le pe_int (pe_callB call_len_str (by rfl) T.len (by decide +kernel) (pa_cons (pv 0) pa_nil)) pe_int)))))
        (pss_one (ps_ret pe_bl))
        pss_nil)
      (pss_one (ps_ret (pe_and (pe_callB (cr_allK K rfl) (by rfl) T.all (by decide +kernel) (pa_cons (pe_lc (own := [("letter", 1)]) (by rfl) sc_is_word.nd (pi_str (pv 0)) (blkOk_by (N := ["text", "letter"]) (sc := defScope s_is_word) (by decide +kernel)) (fun _ _ _ _ _ => (pg_name (i := 1) sc_is_word.nd rfl (by first | exact Or.inl rfl | exact Or.inr rfl))) (fun _ _ _ _ _ => pts_nil) (fun _ _ _ _ _ => (pe_cmpR op_in_sign (pv 1) (pe_glob (v := .str letters) (by rfl) hL ⟨_, rfl⟩) (by rfl)))) pa_nil)) (pe_one (pe_cmpR (op_notIn_seqK K) (pv 0) (pe_glob (v := .ref aK) (by rfl) hK rfl) (by rfl))))))), ?_⟩
    rcases h with ⟨z, rfl, hz, q⟩ | ⟨⟨t, ht, hk⟩, q⟩
    · refine ⟨_, rfl, _, _, _, _, true, rfl, .ty "str", .base (.str z), kit_ty (by decide +kernel), true, rfl, ?_⟩
      refine iteF ?_
      refine ⟨_, rfl, z, rfl, sz4 hz, _, _, rfl, rfl, _, rfl, ?_⟩
      have el : z.length = z.cps.toList.length := by simp [Str.length]
      by_cases h1 : 1 ≤ z.length
      · refine iteY (by omega) ?_
        refine ⟨_, _, rfl, rfl, _, rfl, ?_⟩
        by_cases h8 : z.length ≤ 8
        · refine iteNN (by omega) ?_
          have e1 : decide (1 ≤ z.length) = true := decide_eq_true h1
          have e2 : decide (z.length ≤ 8) = true := decide_eq_true h8
          have ew : isWord z = (z.cps.toList.all isLet && !inV (.str z) keptV) := by
            unfold isWord
            rw [e1, e2]
            rfl
          rw [ew] at q
          refine ⟨_, rfl, z, rfl, fun D hD => ?_⟩
          refine lcW (walk_strV (z := z)) (liftS fun c => some (.bl (isLet c))) (fun _ _ => trivial) (sz4 (by rw [List.length_map]; omega)) hD (fun i x H' hx s' => ?_) (fun H1 s1 d1 => ?_)
          · obtain ⟨c, hc, rfl⟩ := List.mem_map.mp (List.mem_of_getElem? hx)
            intro Q1 Q0 h1 h0
            exact ⟨rfl, _, rfl, c, letters, rfl, rfl, h1 _ _ rfl (Same.refl _)⟩
          · rw [fm_liftS] at d1
            have eb : (z.cps.toList.filterMap fun c => some (V.bl (isLet c))) = (z.cps.toList.map isLet).map V.bl := by
              rw [List.filterMap_eq_map', List.map_map]
              rfl
            rw [eb] at d1
            refine ⟨D, _, rfl, .inl (.inl d1), _, rfl, ?_⟩
            have ea : (z.cps.toList.map isLet).all id = z.cps.toList.all isLet := by rw [List.all_map]; rfl
            refine iteE ea (fun e => ?_) (fun e => ?_)
            · rw [e] at q
              exact ⟨_, rfl, aK, keptV, rfl, .inr (sK _), rfl, kept_flat, q _ s1⟩
            · rw [e] at q
              exact q _ s1
        · refine iteNY (by omega) ?_
          have e2 : decide (z.length ≤ 8) = false := decide_eq_false h8
          have ew : isWord z = false := by
            unfold isWord
            rw [e2]
            simp
          rw [ew] at q
          exact q _ (Same.refl _)
      · refine iteN (by omega) ?_
        have e2 : decide (1 ≤ z.length) = false := decide_eq_false h1
        have ew : isWord z = false := by
          unfold isWord
          rw [e2]
          simp
        rw [ew] at q
        refine ⟨_, rfl, ?_⟩
        exact q _ (Same.refl _)
    · refine ⟨_, rfl, _, _, _, _, false, rfl, .ty "str", ht, kit_ty hk, false, rfl, ?_⟩
      exact q _ (Same.refl _)
theorem sc_good : FnScope ["_law_word_here", "_law_kept", "_law_letters", "_law_sign"] ["_law_word_here"] (defScope s_good) := ⟨rfl, rfl, rfl, by decide +kernel, rfl, by decide +kernel, by decide +kernel⟩
theorem ok_good {f : Addr} {fd : FuncData} (F : FunD K "_law_good" "_law_good" (defArgs s_good) (defBody s_good) (defScope s_good) [] [] f fd) (T : Tx mg) : FnOk P w K mg base CX0 1 f fd ["_law_word_here"] sp_good := by
  refine F.ok sc_good (fun vs H Q E h => ?_) (fun cdv A outer s H vs Q E hr h => ?_)
  · obtain ⟨z, rfl, _⟩ := h
    rfl
  · obtain ⟨z, rfl, hz, q⟩ := h
    refine ⟨_, PSs.nox (pss_cons (ps_set (i := 1) sc_good.nd rfl (by first | exact Or.inl rfl | exact Or.inr rfl) (pe_split pe_str pe_str))
      (pss_cons (ps_set (i := 2) sc_good.nd rfl (by first | exact Or.inl rfl | exact Or.inr rfl) pe_str)
      (pss_cons (ps_if (PW.pt (pw_or (pt_cmpR (op_in_seqK K) (pv 0) (pv 1) (by rfl)) (pw_or (pt_cmpR op_eq (pe_callB call_len_str (by rfl) T.len (by decide +kernel) (pa_cons (pv 0) pa_nil)) pe_int (nomark _)) (pw_or1 (pt_cmpR op_gt (pe_callB call_len_str (by rfl) T.len (by decide +kernel) (pa_cons (pv 0) pa_nil)) pe_int (nomark _))))))
        (pss_one (ps_ret pe_bl))
        pss_nil)
      (pss_one (ps_ret (pe_cmpR op_eq (pe_callB (call_len_seqK K) (by rfl) T.len (by decide +kernel) (pa_cons (pe_lc (own := [("_law_sign", 3)]) (by rfl) sc_good.nd (pi_str (pv 0)) (blkOk_by (N := ["_law_word_here", "_law_kept", "_law_letters", "_law_sign"]) (sc := defScope s_good) (by decide +kernel)) (fun _ _ _ _ _ => (pg_name (i := 3) sc_good.nd rfl (by first | exact Or.inl rfl | exact Or.inr rfl))) (fun _ _ _ _ _ => pts_one (pt_cmpR op_in_sign (pv 3) (pv 2) (by rfl))) (fun _ _ _ _ _ => (pv 3))) pa_nil)) (pe_callB call_len_str (by rfl) T.len (by decide +kernel) (pa_cons (pv 0) pa_nil)) (nomark _))))))), ?_⟩
    refine ⟨⟨_, rfl⟩, _, _, rfl, rfl, rfl, by decide +kernel, fun p hp => ?_⟩
    rw [split_kept]
    have sp := same_upd (o := .lst (kept.map V.str)) hp
    refine ⟨_, rfl, _, rfl, p, _, rfl, .inl (.inl (.inl upd_same)), rfl, kept_flat, _, rfl, ?_⟩
    refine iteE (c := inV (.str z) keptV) rfl (fun e => ?_) (fun e => ?_)
    · refine iteT ?_
      have ew : isWord z = false := by
        unfold isWord
        rw [e]
        simp
      rw [ew] at q
      exact q _ sp
    · refine ⟨_, rfl, z, rfl, sz4 hz, rfl, _, rfl, ?_⟩
      refine iteE (dI _ _) (fun e0 => ?_) (fun e0 => ?_)
      · have h0 : (z.length : Int) = 0 := of_decide_eq_true e0
        refine iteT ?_
        have ew : isWord z = false := by
          unfold isWord
          rw [decide_eq_false (show ¬ 1 ≤ z.length by omega)]
          simp
        rw [ew] at q
        exact q _ sp
      · have h0 : ¬ (z.length : Int) = 0 := of_decide_eq_false e0
        refine ⟨_, rfl, z, rfl, sz4 hz, _, _, rfl, rfl, _, rfl, ?_⟩
        refine iteE rfl (fun e8 => ?_) (fun e8 => ?_)
        · have h8 : (8 : Int) < (z.length : Int) := of_decide_eq_true e8
          have ew : isWord z = false := by
            unfold isWord
            rw [decide_eq_false (show ¬ z.length ≤ 8 by omega)]
            simp
          rw [ew] at q
          exact q _ sp
        · have h8 : ¬ (8 : Int) < (z.length : Int) := of_decide_eq_false e8
          refine ⟨_, rfl, z, rfl, fun D hD => ?_⟩
          refine lcW (walk_strV (z := z)) (liftS fun c => if isLet c = true then some (sgn c) else none) (fun _ _ => trivial) (sz4 (by rw [List.length_map]; have : z.cps.toList.length = z.length := by simp [Str.length]
                                                                                                                                       omega)) hD (fun i x H' hx s' => ?_) (fun H1 s1 d1 => ?_)
          · obtain ⟨c, hc, rfl⟩ := List.mem_map.mp (List.mem_of_getElem? hx)
            intro Q1 Q0 h1 h0
            refine ⟨rfl, _, rfl, _, rfl, c, letters, rfl, rfl, _, rfl, ?_⟩
            refine iteE (c := isLet c) rfl (fun e => ?_) (fun e => ?_)
            · exact ⟨_, rfl, h1 _ _ (by rw [liftS_sgn, e]; rfl) (Same.refl _)⟩
            · exact h0 _ (by rw [liftS_sgn, e]; rfl) (Same.refl _)
          · rw [fm_liftS] at d1
            refine ⟨D, _, rfl, .inl (.inl (.inl d1)), _, rfl, z, rfl, sz4 hz, rfl, ?_⟩
            have eb : (z.cps.toList.filterMap fun c => if isLet c = true then some (sgn c) else none).length = (z.cps.toList.filter isLet).length := by
              rw [← List.length_map (f := sgn) (as := z.cps.toList.filter isLet), ← List.filterMap_eq_map', List.filterMap_filter]
            have eg := good_eq z e (by omega) (by omega)
            rw [dI, eb, eg]
            exact q _ (sp.trans s1)
end
end K95

namespace K95
open PySem PySem.Spec PyProof.Rows L2 Ub
theorem sub_len {α : Type} [BEq α] [LawfulBEq α] : ∀ (l m : List α), l.Nodup → (∀ x ∈ l, x ∈ m) → l.length ≤ m.length
  | [], _, _, _ => Nat.zero_le _
  | x :: r, m, hn, hs => by
    have hx : x ∈ m := hs x List.mem_cons_self
    have hr : r.Nodup := (List.nodup_cons.mp hn).2
    have hxr : x ∉ r := (List.nodup_cons.mp hn).1
    have ih := sub_len r (m.erase x) hr fun y hy => (List.mem_erase_of_ne (show y ≠ x from fun e => hxr (e ▸ hy))).mpr (hs y (List.mem_cons_of_mem _ hy))
    rw [List.length_erase_of_mem hx] at ih
    have : 0 < m.length := List.length_pos_of_mem hx
    rw [List.length_cons]
    omega
theorem app_cps (x y : Str) : (x ++ y).cps.toList = x.cps.toList ++ y.cps.toList := by
  show (Str.append x y).cps.toList = _
  simp [Str.append]
theorem len_app (x y : Str) : (x ++ y).length = x.length + y.length := by
  have := congrArg List.length (app_cps x y)
  simpa [Str.length] using this
theorem join_cps : ∀ ws : List Str, (Str.join "" ws).cps.toList = ws.flatMap fun w => w.cps.toList
  | [] => rfl
  | [x] => by simp [Str.join]
  | x :: y :: r => by
    have ih := join_cps (y :: r)
    show (x ++ "" ++ Str.join "" (y :: r)).cps.toList = _
    rw [app_cps, app_cps, ih]
    have e : (("" : Str)).cps.toList = [] := by decide +kernel
    rw [e]
    simp
theorem len_toList (z : Str) : z.cps.toList.length = z.length := by simp [Str.length]
/-- a text of letters -/
def Low (z : Str) : Prop := ∀ c ∈ z.cps.toList, isLet c = true
theorem cut_low {z : Str} {lo hi : Option Int} (h : Low z) : Low (cutS z lo hi) := fun c hc => by
  unfold cutS at hc
  exact h c (List.mem_of_mem_drop (List.mem_of_mem_take (by simpa using hc)))
theorem cut_7 (z : Str) : (cutS z none (some 7)).length ≤ 7 := by
  have e : HT.sIx z.length z.length (some 7) ≤ 7 := by
    rw [show (some (7 : Int)) = some (((7 : Nat) : Int)) from rfl, HT.sIx_nat]
    omega
  unfold cutS
  show ((z.cps.toList.drop _).take _).toArray.size ≤ 7
  rw [List.size_toArray, List.length_take]
  omega
def way (z : Str) (c : Nat) : Str := cutS z none (some 7) ++ ⟨#[c]⟩
theorem way_low {z : Str} {c : Nat} (h : Low z) (hc : isLet c = true) : Low (way z c) := fun d hd => by
  unfold way at hd
  rw [app_cps] at hd
  rcases List.mem_append.mp hd with hd | hd
  · exact cut_low h d hd
  · have : d = c := by simpa using hd
    rw [this]; exact hc
theorem way_len (z : Str) (c : Nat) : 1 ≤ (way z c).length ∧ (way z c).length ≤ 8 := by
  have h7 := cut_7 z
  have e : ((⟨#[c]⟩ : Str)).length = 1 := rfl
  unfold way
  rw [len_app, e]
  omega
theorem way_inj {z : Str} {c d : Nat} (h : way z c = way z d) : c = d := by
  have h1 := congrArg (fun s : Str => s.cps.toList) h
  unfold way at h1
  simp only [app_cps] at h1
  have h2 := List.append_cancel_left h1
  simpa using h2
theorem lets_nd : letters.cps.toList.Nodup := by decide +kernel
theorem lets_len : letters.cps.toList.length = 26 := by decide +kernel
def ways (z : Str) : List Str := z :: letters.cps.toList.map (way z)
theorem ways_ex (z : Str) (bad : List Str) (hb : bad.length ≤ 25) : ∃ c ∈ letters.cps.toList, way z c ∉ bad := by
  refine Classical.byContradiction fun h => ?_
  have hs : ∀ x ∈ letters.cps.toList.map (way z), x ∈ bad := fun x hx => by
    obtain ⟨c, hc, rfl⟩ := List.mem_map.mp hx
    exact Classical.byContradiction fun hn => h ⟨c, hc, hn⟩
  have hn : (letters.cps.toList.map (way z)).Nodup := by
    unfold List.Nodup
    rw [List.pairwise_map]
    exact lets_nd.imp fun hne e => hne (way_inj e)
  have := sub_len _ _ hn hs
  rw [List.length_map, lets_len] at this
  omega
theorem in_str (z : Str) : ∀ ws : List Str, inV (.str z) (ws.map V.str) = decide (z ∈ ws)
  | [] => rfl
  | w :: r => by
    have ih := in_str z r
    unfold inV at ih ⊢
    rw [List.map_cons, List.any_cons, ih]
    show ((w == z) || decide (z ∈ r)) = decide (z ∈ w :: r)
    by_cases e : w = z
    · subst e; simp
    · have e2 : (w == z) = false := beq_eq_false_iff_ne.mpr e
      rw [e2]
      have : ¬ z = w := fun q => e q.symm
      simp [this]
theorem isWord_iff {z : Str} : isWord z = true ↔ 1 ≤ z.length ∧ z.length ≤ 8 ∧ Low z ∧ z ∉ kept := by
  unfold isWord keptV
  rw [in_str]
  simp only [Bool.and_eq_true, decide_eq_true_eq, Bool.not_eq_true', decide_eq_false_iff_not, List.all_eq_true]
  exact Iff.rfl
end K95

namespace K95
open PySem PySem.Spec PyProof.Rows L2 Ub
theorem oddL {H : Hp} {a : Addr} {xs : List V} (h : H a = some (.lst xs)) : OddAt H (.ref a) := .inr (.inr (.inr (.inr ⟨a, xs, rfl, .inl h⟩)))
theorem oddT {H : Hp} {a : Addr} {xs : List V} (h : H a = some (.tup xs)) : OddAt H (.ref a) := .inr (.inr (.inr (.inr ⟨a, xs, rfl, .inr h⟩)))
theorem oddS {H : Hp} {z : Str} (h : z.length ≤ 10) : OddAt H (.str z) := .inl ⟨z, rfl, h⟩
theorem oddN {H : Hp} : OddAt H .non := .inr (.inl rfl)
theorem oddB {H : Hp} {b : Bool} : OddAt H (.bl b) := .inr (.inr (.inl ⟨b, rfl⟩))
theorem oddI {H : Hp} {i : Int} : OddAt H (.int i) := .inr (.inr (.inr (.inl ⟨i, rfl⟩)))
structure Co (P : Program) (w : World) (K : PySem.W.Frag) (mg : Str → Option Value) (base : Heap) : Prop where
  law_of : Cal P w K mg base 2 "_law_of" ["_law_state", "_law_some"] sp_of
section
variable {P : Program} {w : World} {K : PySem.W.Frag} {mg : Str → Option Value} {base : Heap}
theorem sc_odd : FnScope ["_law_state", "_law_some"] ["_law_state"] (defScope s_odd) := ⟨rfl, rfl, rfl, by decide +kernel, rfl, by decide +kernel, by decide +kernel⟩
theorem ok_odd {f : Addr} {fd : FuncData} (F : FunD K "_law_odd" "_law_odd" (defArgs s_odd) (defBody s_odd) (defScope s_odd) [] [] f fd) (T : Tx mg) (C : Co P w K mg base) : FnOk P w K mg base CX0 3 f fd ["_law_state"] sp_odd := by
  refine F.ok sc_odd (fun vs H Q E h => ?_) (fun cdv A outer s H vs Q E hr h => ?_)
  · obtain ⟨st, g, l, rfl, _⟩ := h
    rfl
  · obtain ⟨st, g, l, rfl, S, q⟩ := h
    refine ⟨_, PSs.nox (pss_cons (ps_set (i := 1) sc_odd.nd rfl (by first | exact Or.inl rfl | exact Or.inr rfl) (pe_lst (pa_cons pe_non (pa_cons pe_bl (pa_cons pe_bl (pa_cons pe_int (pa_cons pe_int (pa_cons (pe_un un_neg pe_int) (pa_cons (pe_op op_pow pe_int pe_int) (pa_cons pe_str (pa_cons pe_str (pa_cons pe_str (pa_cons pe_str (pa_cons pe_str (pa_cons pe_str pa_nil)))))))))))))))
      (pss_cons (ps_set (i := 1) sc_odd.nd rfl (by first | exact Or.inl rfl | exact Or.inr rfl) (pe_op op_cat (pv 1) (pe_lst (pa_cons (pe_lst pa_nil) (pa_cons (pe_lst (pa_cons pe_int pa_nil)) (pa_cons (pe_lst (pa_cons pe_int (pa_cons pe_int pa_nil))) (pa_cons (pe_tup (pa_cons pe_non pa_nil)) (pa_cons (pe_tup (pa_cons pe_bl pa_nil)) (pa_cons (pe_tup (pa_cons (pe_tup pa_nil) (pa_cons pe_int pa_nil))) (pa_cons (pe_tup (pa_cons pe_str (pa_cons pe_int (pa_cons (pe_lst pa_nil) pa_nil)))) (pa_cons (pe_lst (pa_cons (pe_lst pa_nil) (pa_cons (pe_lst (pa_cons (pe_tup pa_nil) pa_nil)) pa_nil))) pa_nil)))))))))))
      (pss_one (ps_ret (pe_cal C.law_of (hr.mono (by decide)) (by rfl) (pa_cons (pv 0) (pa_cons (pe_op op_cat (pv 1) (pe_lst (pa_cons (pe_lst (pa_cons pe_non pa_nil)) (pa_cons pe_str (pa_cons pe_str (pa_cons pe_str pa_nil)))))) pa_nil))))))), ?_⟩
    refine ⟨1, rfl, 10, 29, rfl, rfl, ⟨by decide, by decide, by decide⟩, (by show 13 ≤ sizeLine; decide), fun p hp => ?_⟩
    refine ⟨_, rfl, Nat.zero_le _, fun a1 n1 => ?_⟩
    refine ⟨(by show 1 ≤ sizeLine; decide), fun a2 n2 => ⟨(by show 2 ≤ sizeLine; decide), fun a3 n3 => ⟨(by show 1 ≤ sizeLine; decide), fun a4 n4 => ⟨(by show 1 ≤ sizeLine; decide), fun a5 n5 => ⟨Nat.zero_le _, fun a6 n6 => ⟨(by show 2 ≤ sizeLine; decide), fun a7 n7 => ⟨Nat.zero_le _, fun a8 n8 => ⟨(by show 3 ≤ sizeLine; decide), fun a9 n9 => ⟨Nat.zero_le _, fun b1 m1 => ⟨Nat.zero_le _, fun b2 m2 => ⟨(by show 1 ≤ sizeLine; decide), fun b3 m3 => ⟨(by show 2 ≤ sizeLine; decide), fun b4 m4 => ⟨(by show 8 ≤ sizeLine; decide), fun r hr' => ?_⟩⟩⟩⟩⟩⟩⟩⟩⟩⟩⟩⟩⟩
    have s0 := same_upd (o := .lst [.non, .bl true, .bl false, .int 0, .int 1, .int (-1), .int (10 ^ (29 : Int).toNat), .str "", .str "..", .str ".A", .str " ", .str "\n", .str "a b"]) hp
    have e0 : (upd H p (.lst [.non, .bl true, .bl false, .int 0, .int 1, .int (-1), .int (10 ^ (29 : Int).toNat), .str "", .str "..", .str ".A", .str " ", .str "\n", .str "a b"])) p = some (.lst [.non, .bl true, .bl false, .int 0, .int 1, .int (-1), .int (10 ^ (29 : Int).toNat), .str "", .str "..", .str ".A", .str " ", .str "\n", .str "a b"]) := upd_same
    generalize upd H p (.lst [.non, .bl true, .bl false, .int 0, .int 1, .int (-1), .int (10 ^ (29 : Int).toNat), .str "", .str "..", .str ".A", .str " ", .str "\n", .str "a b"]) = H0 at *
    have s1 := same_upd (o := .lst []) n1
    have e1 : (upd H0 a1 (.lst [])) a1 = some (.lst []) := upd_same
    generalize upd H0 a1 (.lst []) = H1 at *
    have s2 := same_upd (o := .lst [.int 0]) n2
    have e2 : (upd H1 a2 (.lst [.int 0])) a2 = some (.lst [.int 0]) := upd_same
    generalize upd H1 a2 (.lst [.int 0]) = H2 at *
    have s3 := same_upd (o := .lst [.int 1, .int 2]) n3
    have e3 : (upd H2 a3 (.lst [.int 1, .int 2])) a3 = some (.lst [.int 1, .int 2]) := upd_same
    generalize upd H2 a3 (.lst [.int 1, .int 2]) = H3 at *
    have s4 := same_upd (o := .tup [.non]) n4
    have e4 : (upd H3 a4 (.tup [.non])) a4 = some (.tup [.non]) := upd_same
    generalize upd H3 a4 (.tup [.non]) = H4 at *
    have s5 := same_upd (o := .tup [.bl true]) n5
    have e5 : (upd H4 a5 (.tup [.bl true])) a5 = some (.tup [.bl true]) := upd_same
    generalize upd H4 a5 (.tup [.bl true]) = H5 at *
    have s6 := same_upd (o := .tup []) n6
    have e6 : (upd H5 a6 (.tup [])) a6 = some (.tup []) := upd_same
    generalize upd H5 a6 (.tup []) = H6 at *
    have s7 := same_upd (o := .tup [.ref a6, .int 0]) n7
    have e7 : (upd H6 a7 (.tup [.ref a6, .int 0])) a7 = some (.tup [.ref a6, .int 0]) := upd_same
    generalize upd H6 a7 (.tup [.ref a6, .int 0]) = H7 at *
    have s8 := same_upd (o := .lst []) n8
    have e8 : (upd H7 a8 (.lst [])) a8 = some (.lst []) := upd_same
    generalize upd H7 a8 (.lst []) = H8 at *
    have s9 := same_upd (o := .tup [.str "a", .int 1, .ref a8]) n9
    have e9 : (upd H8 a9 (.tup [.str "a", .int 1, .ref a8])) a9 = some (.tup [.str "a", .int 1, .ref a8]) := upd_same
    generalize upd H8 a9 (.tup [.str "a", .int 1, .ref a8]) = H9 at *
    have s10 := same_upd (o := .lst []) m1
    have e10 : (upd H9 b1 (.lst [])) b1 = some (.lst []) := upd_same
    generalize upd H9 b1 (.lst []) = H10 at *
    have s11 := same_upd (o := .tup []) m2
    have e11 : (upd H10 b2 (.tup [])) b2 = some (.tup []) := upd_same
    generalize upd H10 b2 (.tup []) = H11 at *
    have s12 := same_upd (o := .lst [.ref b2]) m3
    have e12 : (upd H11 b3 (.lst [.ref b2])) b3 = some (.lst [.ref b2]) := upd_same
    generalize upd H11 b3 (.lst [.ref b2]) = H12 at *
    have s13 := same_upd (o := .lst [.ref b1, .ref b3]) m4
    have e13 : (upd H12 b4 (.lst [.ref b1, .ref b3])) b4 = some (.lst [.ref b1, .ref b3]) := upd_same
    generalize upd H12 b4 (.lst [.ref b1, .ref b3]) = H13 at *
    have s14 := same_upd (o := .lst [.ref a1, .ref a2, .ref a3, .ref a4, .ref a5, .ref a7, .ref a9, .ref b4]) hr'
    have e14 : (upd H13 r (.lst [.ref a1, .ref a2, .ref a3, .ref a4, .ref a5, .ref a7, .ref a9, .ref b4])) r = some (.lst [.ref a1, .ref a2, .ref a3, .ref a4, .ref a5, .ref a7, .ref a9, .ref b4]) := upd_same
    generalize upd H13 r (.lst [.ref a1, .ref a2, .ref a3, .ref a4, .ref a5, .ref a7, .ref a9, .ref b4]) = H14 at *
    have t14 : Same H14 H14 := Same.refl _
    have t13 : Same H13 H14 := s14.trans t14
    have t12 : Same H12 H14 := s13.trans t13
    have t11 : Same H11 H14 := s12.trans t12
    have t10 : Same H10 H14 := s11.trans t11
    have t9 : Same H9 H14 := s10.trans t10
    have t8 : Same H8 H14 := s9.trans t9
    have t7 : Same H7 H14 := s8.trans t8
    have t6 : Same H6 H14 := s7.trans t7
    have t5 : Same H5 H14 := s6.trans t6
    have t4 : Same H4 H14 := s5.trans t5
    have t3 : Same H3 H14 := s4.trans t4
    have t2 : Same H2 H14 := s3.trans t3
    have t1 : Same H1 H14 := s2.trans t2
    have t0 : Same H0 H14 := s1.trans t1
    refine ⟨p, r, _, _, rfl, rfl, t0 _ _ e0, e14, (by show 13 + 8 ≤ sizeLine; decide), fun c nc => ?_⟩
    have s15 := same_upd (o := .lst ([.non, .bl true, .bl false, .int 0, .int 1, .int (-1), .int (10 ^ (29 : Int).toNat), .str "", .str "..", .str ".A", .str " ", .str "\n", .str "a b"] ++ [.ref a1, .ref a2, .ref a3, .ref a4, .ref a5, .ref a7, .ref a9, .ref b4])) nc
    have e15 : (upd H14 c (.lst ([.non, .bl true, .bl false, .int 0, .int 1, .int (-1), .int (10 ^ (29 : Int).toNat), .str "", .str "..", .str ".A", .str " ", .str "\n", .str "a b"] ++ [.ref a1, .ref a2, .ref a3, .ref a4, .ref a5, .ref a7, .ref a9, .ref b4]))) c = some (.lst ([.non, .bl true, .bl false, .int 0, .int 1, .int (-1), .int (10 ^ (29 : Int).toNat), .str "", .str "..", .str ".A", .str " ", .str "\n", .str "a b"] ++ [.ref a1, .ref a2, .ref a3, .ref a4, .ref a5, .ref a7, .ref a9, .ref b4])) := upd_same
    generalize upd H14 c (.lst ([.non, .bl true, .bl false, .int 0, .int 1, .int (-1), .int (10 ^ (29 : Int).toNat), .str "", .str "..", .str ".A", .str " ", .str "\n", .str "a b"] ++ [.ref a1, .ref a2, .ref a3, .ref a4, .ref a5, .ref a7, .ref a9, .ref b4])) = H15 at *
    refine ⟨_, rfl, _, rfl, (by show 1 ≤ sizeLine; decide), fun d1 nd1 => ⟨(by show 4 ≤ sizeLine; decide), fun d2 nd2 => ?_⟩⟩
    have s16 := same_upd (o := .lst [.non]) nd1
    have e16 : (upd H15 d1 (.lst [.non])) d1 = some (.lst [.non]) := upd_same
    generalize upd H15 d1 (.lst [.non]) = H16 at *
    have s17 := same_upd (o := .lst [.ref d1, .str "update", .str "{", .str "}"]) nd2
    have e17 : (upd H16 d2 (.lst [.ref d1, .str "update", .str "{", .str "}"])) d2 = some (.lst [.ref d1, .str "update", .str "{", .str "}"]) := upd_same
    generalize upd H16 d2 (.lst [.ref d1, .str "update", .str "{", .str "}"]) = H17 at *
    refine ⟨c, d2, _, _, rfl, rfl, s17 _ _ (s16 _ _ e15), e17, (by show 21 + 4 ≤ sizeLine; decide), fun e ne => ?_⟩
    have s18 := same_upd (o := .lst ([.non, .bl true, .bl false, .int 0, .int 1, .int (-1), .int (10 ^ (29 : Int).toNat), .str "", .str "..", .str ".A", .str " ", .str "\n", .str "a b"] ++ [.ref a1, .ref a2, .ref a3, .ref a4, .ref a5, .ref a7, .ref a9, .ref b4] ++ [.ref d1, .str "update", .str "{", .str "}"])) ne
    have sall : Same H _ := (((((s0.trans t0).trans s15).trans s16).trans s17).trans s18)
    have S' := S.same sall
    have Sx := S.same ((((s0.trans t0).trans s15).trans s16).trans s17)
    have tl : Same H14 _ := ((s15.trans s16).trans s17).trans s18
    obtain ⟨⟨gs, ls, cc, ca, h1, h2, h3, hrest⟩, _⟩ := id Sx
    refine ⟨st, g, l, e, _, rfl, upd_same, (ne_of_none h1 ne).symm, (ne_of_none h2 ne).symm, (ne_of_none h3 ne).symm, by simp, (by show 25 ≤ 1000; decide), S', fun v H' hv S2 k => ?_⟩
    refine q v H' ?_ S2 ((Kp.of sall).trans k)
    have far : ∀ {b : Addr} {o : HO}, H = H → (upd H17 e (.lst ([.non, .bl true, .bl false, .int 0, .int 1, .int (-1), .int (10 ^ (29 : Int).toNat), .str "", .str "..", .str ".A", .str " ", .str "\n", .str "a b"] ++ [.ref a1, .ref a2, .ref a3, .ref a4, .ref a5, .ref a7, .ref a9, .ref b4] ++ [.ref d1, .str "update", .str "{", .str "}"]))) b = some o → (H b = none) → H' b = some o := fun {b o} _ hb hn =>
      k _ _ hb (fun z => by
        obtain ⟨⟨_, _, _, _, y1, y2, y3, _⟩, _⟩ := id S
        rw [z, y1] at hn
        cases hn) (fun z => by
        obtain ⟨⟨_, _, _, _, y1, y2, y3, _⟩, _⟩ := id S
        rw [z, y2] at hn
        cases hn) (fun z => by
        obtain ⟨⟨_, _, _, _, y1, y2, y3, _⟩, _⟩ := id S
        rw [z, y3] at hn
        cases hn)
    have o_a1 : OddAt H' (.ref a1) := oddL (far rfl (tl _ _ (t1 _ _ e1)) (s0.free n1))
    have o_a2 : OddAt H' (.ref a2) := oddL (far rfl (tl _ _ (t2 _ _ e2)) (s0.free (s1.free n2)))
    have o_a3 : OddAt H' (.ref a3) := oddL (far rfl (tl _ _ (t3 _ _ e3)) (s0.free (s1.free (s2.free n3))))
    have o_a4 : OddAt H' (.ref a4) := oddT (far rfl (tl _ _ (t4 _ _ e4)) (s0.free (s1.free (s2.free (s3.free n4)))))
    have o_a5 : OddAt H' (.ref a5) := oddT (far rfl (tl _ _ (t5 _ _ e5)) (s0.free (s1.free (s2.free (s3.free (s4.free n5))))))
    have o_a7 : OddAt H' (.ref a7) := oddT (far rfl (tl _ _ (t7 _ _ e7)) (s0.free (s1.free (s2.free (s3.free (s4.free (s5.free (s6.free n7))))))))
    have o_a9 : OddAt H' (.ref a9) := oddT (far rfl (tl _ _ (t9 _ _ e9)) (s0.free (s1.free (s2.free (s3.free (s4.free (s5.free (s6.free (s7.free (s8.free n9))))))))))
    have o_b4 : OddAt H' (.ref b4) := oddL (far rfl (tl _ _ (t13 _ _ e13)) (s0.free (s1.free (s2.free (s3.free (s4.free (s5.free (s6.free (s7.free (s8.free (s9.free (s10.free (s11.free (s12.free m4))))))))))))))
    have o_d1 : OddAt H' (.ref d1) := oddL (far rfl (s18 _ _ (s17 _ _ e16)) (s0.free (t0.free (s15.free nd1))))
    simp only [List.cons_append, List.nil_append, List.mem_cons, List.not_mem_nil, or_false] at hv
    rcases hv with rfl | rfl | rfl | rfl | rfl | rfl | rfl | rfl | rfl | rfl | rfl | rfl | rfl | rfl | rfl | rfl | rfl | rfl | rfl | rfl | rfl | rfl | rfl | rfl | rfl
    all_goals first | exact oddN | exact oddB | exact oddI | assumption | exact oddS (by decide +kernel)
end
end K95

namespace K95
open PySem PySem.Spec PyProof.Rows L2 Ub
def sp_word : Sp := fun vs H Q _ => ∃ (st g l t : Addr) (taken : List Str), vs = [.ref st, .ref t] ∧ H t = some (.lst (taken.map V.str)) ∧ t ≠ st ∧ t ≠ g ∧ t ≠ l ∧ taken.length ≤ 16 ∧ StAt H st g l ∧ ∀ (z : Str) H', isWord z = true → z ∉ taken → StAt H' st g l → Kp st g l H H' → Q (.str z) H'
theorem StAt.ne {H : Hp} {st g l p : Addr} (S : StAt H st g l) (h : H p = none) : p ≠ st ∧ p ≠ g ∧ p ≠ l := by
  obtain ⟨⟨_, _, _, _, h1, h2, h3, _⟩, _⟩ := S
  exact ⟨(ne_of_none h1 h).symm, (ne_of_none h2 h).symm, (ne_of_none h3 h).symm⟩
theorem flat_strs (ws : List Str) : (ws.map V.str).all flatV = true := by
  rw [List.all_eq_true]
  intro x hx
  obtain ⟨w, _, rfl⟩ := List.mem_map.mp hx
  rfl
section
variable {P : Program} {w : World} {K : PySem.W.Frag} {mg : Str → Option Value} {base : Heap}
theorem sc_word : FnScope ["_law_state", "_law_taken", "_law_letters", "_law_kept", "_law_many", "_law_drawn", "_law_ways", "_law_turn", "_law_letter", "_law_way"] ["_law_state", "_law_taken"] (defScope s_word) := ⟨rfl, rfl, rfl, by decide +kernel, rfl, by decide +kernel, by decide +kernel⟩
theorem ok_word {f : Addr} {fd : FuncData} (F : FunD K "_law_word" "_law_word" (defArgs s_word) (defBody s_word) (defScope s_word) [] [] f fd) (T : Tx mg) (C : Cs P w K mg base) : FnOk P w K mg base CX0 2 f fd ["_law_state", "_law_taken"] sp_word := by
  refine F.ok sc_word (fun vs H Q E h => ?_) (fun cdv A outer s H vs Q E hr h => ?_)
  · obtain ⟨st, g, l, t, taken, rfl, _⟩ := h
    rfl
  · obtain ⟨st, g, l, t, taken, rfl, ht, t1, t2, t3, lt, S, q⟩ := h
    refine ⟨_, PSs.nox (pss_cons (ps_set (i := 2) sc_word.nd rfl (by first | exact Or.inl rfl | exact Or.inr rfl) pe_str)
      (pss_cons (ps_set (i := 3) sc_word.nd rfl (by first | exact Or.inl rfl | exact Or.inr rfl) (pe_lst (pa_cons pe_str (pa_cons pe_str (pa_cons pe_str (pa_cons pe_str (pa_cons pe_str (pa_cons pe_str (pa_cons pe_str (pa_cons pe_str (pa_cons pe_str pa_nil)))))))))))
      (pss_cons (ps_set (i := 4) sc_word.nd rfl (by first | exact Or.inl rfl | exact Or.inr rfl) (pe_op op_add pe_int (pe_cal C.law_draw (hr.mono (by decide)) (by rfl) (pa_cons (pv 0) (pa_cons pe_int pa_nil)))))
      (pss_cons (ps_set (i := 5) sc_word.nd rfl (by first | exact Or.inl rfl | exact Or.inr rfl) (pe_join pe_str (pe_lc (own := [("_law_turn", 7)]) (by rfl) sc_word.nd (pi_range1 (by rfl) T.range (pa_cons (pv 4) pa_nil)) (blkOk_by (N := ["_law_state", "_law_taken", "_law_letters", "_law_kept", "_law_many", "_law_drawn", "_law_ways", "_law_turn", "_law_letter", "_law_way"]) (sc := defScope s_word) (by decide +kernel)) (fun _ _ _ _ _ => (pg_name (i := 7) sc_word.nd rfl (by first | exact Or.inl rfl | exact Or.inr rfl))) (fun _ _ _ _ _ => pts_nil) (fun _ _ _ _ _ => (pe_ix ix_str (pv 2) (pe_cal C.law_draw (hr.mono (by decide)) (by rfl) (pa_cons (pv 0) (pa_cons pe_int pa_nil))) (fun _ _ => rfl))))))
      (pss_cons (ps_set (i := 6) sc_word.nd rfl (by first | exact Or.inl rfl | exact Or.inr rfl) (pe_op op_cat (pe_lst (pa_cons (pv 5) pa_nil)) (pe_lc (own := [("_law_letter", 8)]) (by rfl) sc_word.nd (pi_str (pv 2)) (blkOk_by (N := ["_law_state", "_law_taken", "_law_letters", "_law_kept", "_law_many", "_law_drawn", "_law_ways", "_law_turn", "_law_letter", "_law_way"]) (sc := defScope s_word) (by decide +kernel)) (fun _ _ _ _ _ => (pg_name (i := 8) sc_word.nd rfl (by first | exact Or.inl rfl | exact Or.inr rfl))) (fun _ _ _ _ _ => pts_nil) (fun _ _ _ _ _ => (pe_op op_add_str (pe_slice sl_str (pv 5) po_none (po_some pe_int)) (pv 8))))))
      (pss_one (ps_ret (pe_ix (ix_listK K) (pe_lc (own := [("_law_way", 9)]) (by rfl) sc_word.nd (pi_listK K (pv 6)) (blkOk_by (N := ["_law_state", "_law_taken", "_law_letters", "_law_kept", "_law_many", "_law_drawn", "_law_ways", "_law_turn", "_law_letter", "_law_way"]) (sc := defScope s_word) (by decide +kernel)) (fun _ _ _ _ _ => (pg_name (i := 9) sc_word.nd rfl (by first | exact Or.inl rfl | exact Or.inr rfl))) (fun _ _ _ _ _ => pts_one (PW.pt (pw_and (pt_cmpR (op_notIn_seqK K) (pv 9) (pv 1) (by rfl)) (pw_and1 (pt_cmpR (op_notIn_seqK K) (pv 9) (pv 3) (by rfl)))))) (fun _ _ _ _ _ => (pv 9))) pe_int (fun _ _ => rfl))))))))), ?_⟩
    -- letters, kept
    refine ⟨(by show 9 ≤ sizeLine; decide), fun k hk => ?_⟩
    have sk := same_upd (o := .lst keptV) hk
    have ek : (upd H k (.lst keptV)) k = some (.lst keptV) := upd_same
    obtain ⟨k1, k2, k3⟩ := S.ne hk
    have S1 := S.same sk
    -- many
    refine ⟨_, rfl, st, g, l, 8, rfl, by decide, by decide, S1, fun d H1 d0 d1 S2 p1 => ?_⟩
    refine ⟨_, _, rfl, rfl, ?_⟩
    obtain ⟨n, rfl⟩ : ∃ n : Nat, d = (n : Int) := ⟨d.toNat, by omega⟩
    have hn : n < 8 := by omega
    have en : (1 + (n : Int)).toNat = n + 1 := by omega
    -- drawn
    refine ⟨⟨_, rfl⟩, _, rfl, _, rfl, by omega, by omega, fun D hD => ?_⟩
    rw [en]
    obtain ⟨D1, D2, D3⟩ := S2.ne hD
    refine lc_range (fun i H2 => StAt H2 st g l ∧ Kp st g l H1 H2 ∧ ∃ ws : List Str, H2 D = some (.lst (ws.map V.str)) ∧ ws.length = i ∧ ∀ x ∈ ws, x.length = 1 ∧ Low x) ?_ (fun i H2 hi hp => ?_) (fun H2 hp => ?_)
    · exact ⟨S2.same (same_upd hD), Kp.of (same_upd hD), [], upd_same, rfl, fun _ h => nomatch h⟩
    · obtain ⟨Sx, px, ws, hD2, lw, hw⟩ := hp
      refine ⟨rfl, _, rfl, _, rfl, st, g, l, 26, rfl, by decide, by decide, Sx, fun d H3 d0 d1 S3 p3 => ?_⟩
      obtain ⟨j, rfl⟩ : ∃ j : Nat, d = (j : Int) := ⟨d.toNat, by omega⟩
      have hj : j < letters.cps.toList.length := by rw [lets_len]; omega
      refine ⟨letters, _, _, rfl, rfl, (by decide +kernel), atI_nat (List.getElem?_eq_getElem hj), ?_⟩
      have hD3 := p3 _ _ hD2 D1 D2 D3
      refine ⟨_, hD3, ?_, ?_, ?_, ws ++ [⟨#[letters.cps.toList[j]]⟩], ?_, ?_, ?_⟩
      · rw [List.length_map]
        exact small1000 (by omega)
      · obtain ⟨⟨gs, ls, c, a, h1, h2, h3, r⟩, n1, n2, n3⟩ := S3
        exact ⟨⟨gs, ls, c, a, by rw [upd_ne D1.symm]; exact h1, by rw [upd_ne D2.symm]; exact h2, by rw [upd_ne D3.symm]; exact h3, r⟩, n1, n2, n3⟩
      · intro b o e b1 b2 b3
        rw [upd_ne (ne_of_none e hD)]
        exact p3 _ _ (px _ _ e b1 b2 b3) b1 b2 b3
      · rw [upd_same, List.map_append]
        rfl
      · rw [List.length_append, lw]; rfl
      · intro x hx
        rcases List.mem_append.mp hx with hx | hx
        · exact hw x hx
        · have e : x = ⟨#[letters.cps.toList[j]]⟩ := by simpa using hx
          subst e
          refine ⟨rfl, fun c hc => ?_⟩
          have e2 : c = letters.cps.toList[j] := by simpa using hc
          rw [e2]
          exact decide_eq_true (List.getElem_mem hj)
    obtain ⟨Sx, px, ws, hD2, lw, hw⟩ := hp
    have slen : (ws.map (·.length)).sum = ws.length := by
      clear hD2 lw
      induction ws with
      | nil => rfl
      | cons x r ih =>
        rw [List.map_cons, List.sum_cons, ih fun y hy => hw y (List.mem_cons_of_mem _ hy), (hw x List.mem_cons_self).1, List.length_cons]
        omega
    refine ⟨"", D, ws, rfl, rfl, .inl (.inl (.inl hD2)), ?_, ?_⟩
    · rw [slen, show (("" : Str)).length = 0 by decide +kernel]
      omega
    rw [TL.join_eq]
    have lowz : Low (Str.join "" ws) := fun c hc => by
      rw [join_cps] at hc
      obtain ⟨x, hx, hcx⟩ := List.mem_flatMap.mp hc
      exact (hw x hx).2 c hcx
    have lenz : (Str.join "" ws).length = n + 1 := by
      rw [← len_toList, join_cps, List.length_flatMap]
      have : (ws.map fun w => w.cps.toList.length) = ws.map (·.length) := List.map_congr_left fun x _ => len_toList x
      rw [this, slen, lw]
    generalize Str.join "" ws = z at *
    -- ways
    refine ⟨_, rfl, (by show 1 ≤ sizeLine; decide), fun e1 ne1 => ?_⟩
    have se := same_upd (o := .lst [.str z]) ne1
    have he1 : (upd H2 e1 (.lst [.str z])) e1 = some (.lst [.str z]) := upd_same
    generalize upd H2 e1 (.lst [.str z]) = H3 at *
    refine ⟨_, rfl, letters, rfl, fun e2 ne2 => ?_⟩
    refine lcW (walk_strV (z := letters)) (liftS fun c => some (.str (way z c))) (fun _ _ => trivial) (sz4 (by rw [List.length_map, lets_len]; decide)) ne2 (fun i x H' hx s' => ?_) (fun H4 s4 d4 => ?_)
    · obtain ⟨c, hc, rfl⟩ := List.mem_map.mp (List.mem_of_getElem? hx)
      intro Q1 Q0 h1 h0
      refine ⟨rfl, _, rfl, 7, rfl, z, rfl, sz4 (by omega), _, rfl, _, _, rfl, rfl, ?_, h1 _ _ rfl (Same.refl _)⟩
      have h7 := cut_7 z
      have e1 : ((⟨#[c]⟩ : Str)).length = 1 := rfl
      rw [e1]
      exact sz4 (by omega)
    rw [fm_liftS] at d4
    have ew : (letters.cps.toList.filterMap fun c => some (V.str (way z c))) = (letters.cps.toList.map (way z)).map V.str := by
      rw [List.filterMap_eq_map', List.map_map]
      rfl
    rw [ew] at d4
    refine ⟨e1, e2, _, _, rfl, rfl, s4 _ _ he1, d4, ?_, fun u nu => ?_⟩
    · rw [List.length_map, List.length_map, lets_len]
      show 1 + 26 ≤ sizeLine
      decide
    have su := same_upd (o := .lst ([.str z] ++ (letters.cps.toList.map (way z)).map V.str)) nu
    have hu : (upd H4 u (.lst ([.str z] ++ (letters.cps.toList.map (way z)).map V.str))) u = some (.lst ((ways z).map V.str)) := upd_same
    generalize upd H4 u (.lst ([.str z] ++ (letters.cps.toList.map (way z)).map V.str)) = H5 at *
    -- return
    have s25 : Same H2 H5 := (se.trans s4).trans su
    have kk : Kp st g l H H5 := (((Kp.of sk).trans p1).trans px).trans (Kp.of s25)
    have ht5 : H5 t = some (.lst (taken.map V.str)) := kk _ _ ht t1 t2 t3
    have hk5 : H5 k = some (.lst keptV) := s25 _ _ (px _ _ (p1 _ _ ek k1 k2 k3) k1 k2 k3)
    refine ⟨_, rfl, u, rfl, ⟨_, .inl (.inl hu)⟩, fun v nv => ?_⟩
    refine lcW (walk_list (xs := (ways z).map V.str)) (fun x => match x with | .str y => if y ∉ taken ∧ y ∉ kept then some (.str y) else none | _ => none) (fun H s => s.seq (.inl (.inl hu))) (sz4 (by rw [List.length_map]; unfold ways; rw [List.length_cons, List.length_map, lets_len]; decide)) nv (fun i x H' hx s' => ?_) (fun H6 s6 d6 => ?_)
    · obtain ⟨y, hy, rfl⟩ := List.mem_map.mp (List.mem_of_getElem? hx)
      intro Q1 Q0 h1 h0
      refine ⟨rfl, _, rfl, _, rfl, t, _, rfl, .inl (.inl (.inl (s' _ _ ht5))), rfl, flat_strs _, _, rfl, ?_⟩
      refine iteE (c := !decide (y ∈ taken)) (by show (!inV (.str y) (taken.map V.str)) = _; rw [in_str]) (fun e => ?_) (fun e => ?_)
      · have ey : y ∉ taken := by simpa using e
        refine ⟨_, rfl, _, rfl, k, _, rfl, .inl (.inl (.inl (s' _ _ hk5))), rfl, kept_flat, _, rfl, ?_⟩
        refine iteE (c := !decide (y ∈ kept)) (by show (!inV (.str y) keptV) = _; unfold keptV; rw [in_str]) (fun e2 => ?_) (fun e2 => ?_)
        · have ey2 : y ∉ kept := by simpa using e2
          exact ⟨_, rfl, h1 _ _ (by show (if y ∉ taken ∧ y ∉ kept then some (V.str y) else none) = _; rw [if_pos ⟨ey, ey2⟩]) (Same.refl _)⟩
        · have ey2 : y ∈ kept := by simpa using e2
          exact h0 _ (by show (if y ∉ taken ∧ y ∉ kept then some (V.str y) else none) = _; rw [if_neg fun z => z.2 ey2]) (Same.refl _)
      · have ey : y ∈ taken := by simpa using e
        exact h0 _ (by show (if y ∉ taken ∧ y ∉ kept then some (V.str y) else none) = _; rw [if_neg fun z => z.1 ey]) (Same.refl _)
    have good : ∀ x ∈ ((ways z).map V.str).filterMap (fun x => match x with | .str y => if y ∉ taken ∧ y ∉ kept then some (V.str y) else none | _ => none), ∃ y, x = .str y ∧ isWord y = true ∧ y ∉ taken := fun x hx => by
      obtain ⟨a, ha, e⟩ := List.mem_filterMap.mp hx
      obtain ⟨y, hy, rfl⟩ := List.mem_map.mp ha
      have e2 : (if y ∉ taken ∧ y ∉ kept then some (V.str y) else none) = some x := e
      by_cases hc : y ∉ taken ∧ y ∉ kept
      · rw [if_pos hc] at e2
        refine ⟨y, (Option.some.inj e2).symm, isWord_iff.mpr ?_, hc.1⟩
        unfold ways at hy
        rcases List.mem_cons.mp hy with rfl | hy
        · exact ⟨by omega, by omega, lowz, hc.2⟩
        · obtain ⟨c, hcl, rfl⟩ := List.mem_map.mp hy
          exact ⟨(way_len z c).1, (way_len z c).2, way_low lowz (decide_eq_true hcl), hc.2⟩
      · rw [if_neg hc] at e2
        cases e2
    obtain ⟨c, hc, hb⟩ := ways_ex z (taken ++ kept) (by rw [List.length_append]; have : kept.length = 9 := rfl; omega)
    have hin : V.str (way z c) ∈ ((ways z).map V.str).filterMap (fun x => match x with | .str y => if y ∉ taken ∧ y ∉ kept then some (V.str y) else none | _ => none) := by
      refine List.mem_filterMap.mpr ⟨V.str (way z c), List.mem_map.mpr ⟨_, List.mem_cons_of_mem _ (List.mem_map.mpr ⟨c, hc, rfl⟩), rfl⟩, ?_⟩
      show (if way z c ∉ taken ∧ way z c ∉ kept then some (V.str (way z c)) else none) = _
      rw [if_pos ⟨fun h => hb (List.mem_append_left _ h), fun h => hb (List.mem_append_right _ h)⟩]
    generalize ((ways z).map V.str).filterMap (fun x => match x with | .str y => if y ∉ taken ∧ y ∉ kept then some (V.str y) else none | _ => none) = L at *
    cases L with
    | nil => cases hin
    | cons x r =>
      obtain ⟨y, rfl, hy, hyt⟩ := good x List.mem_cons_self
      exact ixl d6 at0 (q y H6 hy hyt (((Sx.same s25).same s6)) (kk.trans (Kp.of s6)))
end
end K95

namespace K95
open PySem PySem.Spec PyProof.Rows L2 Ub
structure Cl (P : Program) (w : World) (K : PySem.W.Frag) (mg : Str → Option Value) (base : Heap) : Prop where
  law_start : Cal P w K mg base 1 "_law_start" ["_law_script"] (sp_start K)
  law_draw : Cal P w K mg base 1 "_law_draw" ["_law_state", "_law_many"] sp_draw
  law_of : Cal P w K mg base 2 "_law_of" ["_law_state", "_law_some"] sp_of
  law_word : Cal P w K mg base 2 "_law_word" ["_law_state", "_law_taken"] sp_word
  law_odd : Cal P w K mg base 3 "_law_odd" ["_law_state"] sp_odd
  law_good : Cal P w K mg base 1 "_law_good" ["_law_word_here"] sp_good
  is_word : Cal P w K mg base 1 "is_word" ["text"] (sp_is_word K)
def sp_law (K : PySem.W.Frag) : Sp := fun vs H Q _ => ∃ (a : Addr) (ns : List Int), vs = [.ref a] ∧ SqL K H a (ns.map V.int) ∧ ns.length ≤ 63 ∧ ∀ H', Q (.bl true) H'
/-- a list of short texts -/
structure Tl (H : Hp) (t : Addr) (n m : Nat) : Prop where
  ex : ∃ ws : List Str, H t = some (.lst (ws.map V.str)) ∧ ws.length ≤ n ∧ ∀ x ∈ ws, x.length ≤ m
theorem StAt.upd {H : Hp} {st g l p : Addr} {o : HO} (S : StAt H st g l) (h1 : p ≠ st) (h2 : p ≠ g) (h3 : p ≠ l) : StAt (upd H p o) st g l := by
  obtain ⟨⟨gs, ls, c, a, e1, e2, e3, r⟩, n1, n2, n3⟩ := S
  exact ⟨⟨gs, ls, c, a, by rw [upd_ne h1.symm]; exact e1, by rw [upd_ne h2.symm]; exact e2, by rw [upd_ne h3.symm]; exact e3, r⟩, n1, n2, n3⟩
theorem mul_len (z : Str) (n : Nat) : (Txt.mul z (n : Int)).length = z.length * n := by
  have h := len_mul z (n : Int)
  have e : (if decide ((n : Int) < 0) = true then (0 : Int) else (n : Int)) = (n : Int) := by
    rw [decide_eq_false (by omega)]
    rfl
  rw [e] at h
  have : (((Txt.mul z (n : Int)).length : Nat) : Int) = ((z.length * n : Nat) : Int) := by rw [h, Int.natCast_mul]
  omega
theorem memS {P : Str → Prop} {ws : List Str} {x : V} {i : Nat} (h : ∀ y ∈ ws, P y) (hx : (ws.map V.str)[i]? = some x) : ∃ y, x = .str y ∧ P y := by
  obtain ⟨y, hy, rfl⟩ := List.mem_map.mp (List.mem_of_getElem? hx)
  exact ⟨y, rfl, h y hy⟩
def more : List Str := ["", "a", "z", Txt.mul "a" 8, Txt.mul "a" 9, Txt.mul "a" 4000]
theorem kept_len : ∀ x ∈ kept, x.length ≤ 8 := by decide +kernel
section
variable {P : Program} {w : World} {K : PySem.W.Frag} {mg : Str → Option Value} {base : Heap}
theorem sc_law : FnScope ["_law_script", "_law_state", "_law_texts", "_law_word_here", "_law_turn", "_law_at", "_law_sign", "_law_ahead", "_law_text", "_law_told", "_law_odd_here"] ["_law_script"] (defScope s_law) := ⟨rfl, rfl, rfl, by decide +kernel, rfl, by decide +kernel, by decide +kernel⟩
theorem ok_law {f : Addr} {fd : FuncData} (F : FunD K "law" "law" (defArgs s_law) (defBody s_law) (defScope s_law) [] [] f fd) (T : Tx mg) (C : Cl P w K mg base) : FnOk P w K mg base CX0 4 f fd ["_law_script"] (sp_law K) := by
  refine F.ok sc_law (fun vs H Q E h => ?_) (fun cdv A outer s H vs Q E hr h => ?_)
  · obtain ⟨a, ns, rfl, _⟩ := h
    rfl
  · obtain ⟨a, ns, rfl, hS, hl, q⟩ := h
    refine ⟨_, PSs.nox (pss_cons (ps_set (i := 1) sc_law.nd rfl (by first | exact Or.inl rfl | exact Or.inr rfl) (pe_cal C.law_start (hr.mono (by decide)) (by rfl) (pa_cons (pv 0) pa_nil)))
      (pss_cons (ps_set (i := 2) sc_law.nd rfl (by first | exact Or.inl rfl | exact Or.inr rfl) (pe_split pe_str pe_str))
      (pss_cons (ps_for PassesOwn.never rfl (pi_listK K (pe_callTy (call_list_ofK K) (by rfl) T.list (by decide +kernel) (pa_cons (pv 2) pa_nil))) (pg_name (i := 3) sc_law.nd rfl (by first | exact Or.inl rfl | exact Or.inr rfl))
        (pss_cons (ps_expr (pe_bm PySem.F.plainAttrs_list PySem.F.slot_list_extend PySem.F.type_list_extend mt_extend (pv 2) (pa_cons (pe_lst (pa_cons (pe_op op_add_str (pv 3) pe_str) (pa_cons (pe_slice sl_str (pv 3) (po_some pe_int) po_none) (pa_cons (pe_slice sl_str (pv 3) po_none (po_some (pe_un un_neg pe_int))) (pa_cons (pe_upper (pv 3)) pa_nil))))) pa_nil)))
          (pss_one (ps_expr (pe_bm PySem.F.plainAttrs_list PySem.F.slot_list_extend PySem.F.type_list_extend mt_extend (pv 2) (pa_cons (pe_lst (pa_cons (pe_op op_add_str pe_str (pv 3)) (pa_cons (pe_op op_add_str (pv 3) pe_str) pa_nil))) pa_nil))))))
      (pss_cons (ps_for PassesOwn.never rfl (pi_range1 (by rfl) T.range (pa_cons pe_int pa_nil)) (pg_name (i := 4) sc_law.nd rfl (by first | exact Or.inl rfl | exact Or.inr rfl))
        (pss_cons (ps_set (i := 3) sc_law.nd rfl (by first | exact Or.inl rfl | exact Or.inr rfl) (pe_cal C.law_word (hr.mono (by decide)) (by rfl) (pa_cons (pv 1) (pa_cons (pe_lst pa_nil) pa_nil))))
          (pss_cons (ps_set (i := 5) sc_law.nd rfl (by first | exact Or.inl rfl | exact Or.inr rfl) (pe_cal C.law_draw (hr.mono (by decide)) (by rfl) (pa_cons (pv 1) (pa_cons (pe_op op_add (pe_callB call_len_str (by rfl) T.len (by decide +kernel) (pa_cons (pv 3) pa_nil)) pe_int) pa_nil))))
          (pss_cons (ps_set (i := 6) sc_law.nd rfl (by first | exact Or.inl rfl | exact Or.inr rfl) (pe_cal C.law_of (hr.mono (by decide)) (by rfl) (pa_cons (pv 1) (pa_cons (pe_op op_cat (pe_callTy (call_list_str rfl) (by rfl) T.list (by decide +kernel) (pa_cons pe_str pa_nil)) (pe_lst (pa_cons pe_str (pa_cons pe_str (pa_cons pe_str pa_nil))))) pa_nil))))
          (pss_cons (ps_set (i := 7) sc_law.nd rfl (by first | exact Or.inl rfl | exact Or.inr rfl) (pe_op op_add_str (pe_slice sl_str (pv 3) po_none (po_some (pv 5))) (pv 6)))
          (pss_cons (ps_expr (pe_bm PySem.F.plainAttrs_list PySem.F.slot_list_extend PySem.F.type_list_extend mt_extend (pv 2) (pa_cons (pe_lst (pa_cons (pv 3) (pa_cons (pe_op op_mul_si (pv 3) pe_int) (pa_cons (pe_op op_add_str (pv 7) (pe_slice sl_str (pv 3) (po_some (pv 5)) po_none)) (pa_cons (pe_op op_add_str (pv 7) (pe_slice sl_str (pv 3) (po_some (pe_op op_add (pv 5) pe_int)) po_none)) pa_nil))))) pa_nil)))
          (pss_cons (ps_expr (pe_bm PySem.F.plainAttrs_list PySem.F.slot_list_append PySem.F.type_list_append mt_append (pv 2) (pa_cons (pe_slice sl_str (pe_op op_add_str (pv 3) pe_str) po_none (po_some pe_int)) pa_nil)))
          (pss_one (ps_expr (pe_bm PySem.F.plainAttrs_list PySem.F.slot_list_append PySem.F.type_list_append mt_append (pv 2) (pa_cons (pe_slice sl_str (pe_op op_add_str (pv 3) pe_str) po_none (po_some pe_int)) pa_nil)))))))))))
      (pss_cons (ps_for PassesOwn.never rfl (pi_listK K (pe_op op_cat (pv 2) (pe_lst (pa_cons pe_str (pa_cons pe_str (pa_cons pe_str (pa_cons (pe_op op_mul_si pe_str pe_int) (pa_cons (pe_op op_mul_si pe_str pe_int) (pa_cons (pe_op op_mul_si pe_str pe_int) pa_nil))))))))) (pg_name (i := 8) sc_law.nd rfl (by first | exact Or.inl rfl | exact Or.inr rfl))
        (pss_cons (ps_set (i := 9) sc_law.nd rfl (by first | exact Or.inl rfl | exact Or.inr rfl) (pe_cal C.is_word (hr.mono (by decide)) (by rfl) (pa_cons (pv 8) pa_nil)))
          (pss_one (ps_if (PW.pt (pw_or (pt_not (pt_val (pe_callB (call_isiK' K) (by rfl) T.isinstance (by decide +kernel) (pa_cons (pv 9) (pa_cons (pe_bltn (v := .ty "bool") (by rfl) T.bool (by decide +kernel) rfl) pa_nil))))) (pw_or1 (pt_cmpR op_ne (pv 9) (pe_cal C.law_good (hr.mono (by decide)) (by rfl) (pa_cons (pv 8) pa_nil)) (nomark _)))))
            (pss_one (ps_ret pe_bl))
            pss_nil))))
      (pss_cons (ps_for PassesOwn.never rfl (pi_range1 (by rfl) T.range (pa_cons pe_int pa_nil)) (pg_name (i := 4) sc_law.nd rfl (by first | exact Or.inl rfl | exact Or.inr rfl))
        (pss_cons (ps_set (i := 10) sc_law.nd rfl (by first | exact Or.inl rfl | exact Or.inr rfl) (pe_cal C.law_odd (hr.mono (by decide)) (by rfl) (pa_cons (pv 1) pa_nil)))
          (pss_cons (ps_if (pt_cmpR op_ne (pe_cal C.is_word (hr.mono (by decide)) (by rfl) (pa_cons (pv 10) pa_nil)) (pe_and (pe_callB (call_isiK' K) (by rfl) T.isinstance (by decide +kernel) (pa_cons (pv 10) (pa_cons (pe_bltn (v := .ty "str") (by rfl) T.str (by decide +kernel) rfl) pa_nil))) (pe_one (pe_cal C.law_good (hr.mono (by decide)) (by rfl) (pa_cons (pv 10) pa_nil)))) (nomark _))
            (pss_one (ps_ret pe_bl))
            pss_nil)
          (pss_one (ps_if (PW.pt (pw_or (pt_val (pe_cal C.is_word (hr.mono (by decide)) (by rfl) (pa_cons (pe_lst (pa_cons (pv 10) pa_nil)) pa_nil))) (pw_or (pt_val (pe_cal C.is_word (hr.mono (by decide)) (by rfl) (pa_cons (pe_tup (pa_cons (pv 10) (pa_cons pe_str pa_nil))) pa_nil))) (pw_or1 (pt_val (pe_cal C.is_word (hr.mono (by decide)) (by rfl) (pa_cons (pe_tup (pa_cons pe_str pa_nil)) pa_nil)))))))
            (pss_one (ps_ret pe_bl))
            pss_nil)))))
      (pss_one (ps_ret (pe_and (pe_cal C.is_word (hr.mono (by decide)) (by rfl) (pa_cons pe_str pa_nil)) (pe_one (pe_not (pe_cal C.is_word (hr.mono (by decide)) (by rfl) (pa_cons pe_non pa_nil))))))))))))), ?_⟩
    refine ⟨_, rfl, a, ns, rfl, hS, hl, fun st g l H1 n1 n2 n3 S1 s1 => ?_⟩
    -- texts
    refine ⟨⟨_, rfl⟩, _, _, rfl, rfl, rfl, by decide +kernel, fun t nt => ?_⟩
    rw [split_kept]
    obtain ⟨t1, t2, t3⟩ := S1.ne nt
    have S2 := S1.same (same_upd (o := .lst (kept.map V.str)) nt)
    have et : (upd H1 t (.lst (kept.map V.str))) t = some (.lst (kept.map V.str)) := upd_same
    generalize upd H1 t (.lst (kept.map V.str)) = H2 at *
    -- for word in list(texts)
    refine ⟨_, rfl, t, _, rfl, .inl (.inl (.inl et)), fun c nc => ?_⟩
    have S3 := S2.same (same_upd (o := .lst (kept.map V.str)) nc)
    have et3 : (upd H2 c (.lst (kept.map V.str))) t = some (.lst (kept.map V.str)) := same_upd nc _ _ et
    have ec : (upd H2 c (.lst (kept.map V.str))) c = some (.lst (kept.map V.str)) := upd_same
    have ntc : t ≠ c := ne_of_none et nc
    generalize upd H2 c (.lst (kept.map V.str)) = H3 at *
    refine ⟨c, rfl, ⟨_, .inl (.inl ec)⟩, ?_⟩
    refine for_list (xs := kept.map V.str) (fun i σ H => ∃ y3, σ = [some (.ref a), some (.ref st), some (.ref t), y3, none, none, none, none, none, none, none] ∧ StAt H st g l ∧ H c = some (.lst (kept.map V.str)) ∧ Tl H t (9 + 6 * i) 40) ?_ (fun i σ H _ p => ?_) (fun i x σ H hx p => ?_) (fun σ H p => ?_)
    · exact ⟨none, rfl, S3, ec, kept, et3, by decide, fun x hx => Nat.le_trans (kept_len x hx) (by decide)⟩
    · obtain ⟨_, _, _, hc, _⟩ := p
      exact .inl (.inl hc)
    · obtain ⟨y3, rfl, S, hc, ⟨ws, ht, ln, lm⟩⟩ := p
      have hi : i < 9 := by
        have := (List.getElem?_eq_some_iff.mp hx).1
        rw [List.length_map] at this
        exact this
      obtain ⟨z, rfl, hz⟩ := memS kept_len hx
      have lu := len_upper z
      have lc1 := cutS_length z (some 1) none
      have lc2 := cutS_length z none (some (-1))
      refine ⟨.ref t, rfl, .inl ⟨rfl, _, .inl (.inl ht)⟩, _, rfl, z, "s", rfl, rfl, ?_, _, rfl, 1, rfl, z, rfl, sz4 (by omega), _, rfl, 1, rfl, -1, rfl, z, rfl, sz4 (by omega), _, rfl, ⟨_, rfl⟩, z, rfl, rfl, by omega, (by show 4 ≤ sizeLine; decide), fun e ne => ?_⟩
      · have : (("s" : Str)).length = 1 := by decide +kernel
        exact sz4 (by omega)
      obtain ⟨e1, e2, e3⟩ := S.ne ne
      have nte : t ≠ e := ne_of_none ht ne
      have nce : c ≠ e := ne_of_none hc ne
      refine ⟨t, e, _, _, rfl, rfl, same_upd ne _ _ ht, upd_same, ?_, ?_⟩
      · rw [List.length_map]
        show ws.length + 4 ≤ sizeLine
        exact sz4 (by omega)
      refine absH fun H' eH => ?_
      have ht2 : H' t = some (.lst ((ws ++ [z ++ "s", cutS z (some 1) none, cutS z none (some (-1)), Txt.upper z]).map V.str)) := by
        rw [eH, upd_same, List.map_append]
        rfl
      have S' : StAt H' st g l := by
        rw [eH]
        exact (S.upd e1 e2 e3).upd t1 t2 t3
      have hc' : H' c = some (.lst (kept.map V.str)) := by
        rw [eH, upd_ne ntc.symm, upd_ne nce]
        exact hc
      have hl1 : (z ++ "s").length ≤ 40 := by
        have : (("s" : Str)).length = 1 := by decide +kernel
        rw [len_app]
        omega
      clear eH
      have s1' : ((" " : Str)).length = 1 := by decide +kernel
      have s2' : (("\n" : Str)).length = 1 := by decide +kernel
      refine ⟨.ref t, rfl, .inl ⟨rfl, _, .inl (.inl ht2)⟩, _, rfl, " ", z, rfl, rfl, sz4 (by omega), _, rfl, z, "\n", rfl, rfl, sz4 (by omega), (by show 2 ≤ sizeLine; decide), fun e' ne' => ?_⟩
      obtain ⟨e1', e2', e3'⟩ := S'.ne ne'
      have nte' : t ≠ e' := ne_of_none ht2 ne'
      have nce' : c ≠ e' := ne_of_none hc' ne'
      refine ⟨t, e', _, _, rfl, rfl, same_upd ne' _ _ ht2, upd_same, ?_, ?_⟩
      · rw [List.length_map, List.length_append]
        show ws.length + 4 + 2 ≤ sizeLine
        exact sz4 (by omega)
      refine ⟨_, rfl, (S'.upd e1' e2' e3').upd t1 t2 t3, ?_, (ws ++ [z ++ "s", cutS z (some 1) none, cutS z none (some (-1)), Txt.upper z]) ++ [" " ++ z, z ++ "\n"], ?_, ?_, ?_⟩
      · rw [upd_ne ntc.symm, upd_ne nce']
        exact hc'
      · rw [upd_same]
        simp only [List.map_append]
        rfl
      · rw [List.length_append, List.length_append]
        show ws.length + 4 + 2 ≤ _
        omega
      · intro x hx
        rcases List.mem_append.mp hx with hx | hx
        · rcases List.mem_append.mp hx with hx | hx
          · exact lm x hx
          · simp only [List.mem_cons, List.not_mem_nil, or_false] at hx
            rcases hx with rfl | rfl | rfl | rfl <;> omega
        · simp only [List.mem_cons, List.not_mem_nil, or_false] at hx
          rcases hx with rfl | rfl <;> (rw [len_app]; omega)
    -- for turn in range(12)
    obtain ⟨y3, rfl, S4, _, T4⟩ := p
    refine ⟨12, rfl, by decide, by decide, ?_⟩
    refine for_range (lo := 0) (n := 12) (fun i σ H => ∃ y3 y4 y5 y6 y7, σ = [some (.ref a), some (.ref st), some (.ref t), y3, y4, y5, y6, y7, none, none, none] ∧ StAt H st g l ∧ Tl H t (63 + 6 * i) 40) ?_ (fun i σ H hi p => ?_) (fun σ H p => ?_)
    · exact ⟨y3, none, none, none, none, rfl, S4, T4⟩
    · obtain ⟨y3, y4, y5, y6, y7, rfl, S, ⟨ws, ht, ln, lm⟩⟩ := p
      -- word = _law_word(state, [])
      refine ⟨_, rfl, Nat.zero_le _, fun e ne => ?_⟩
      obtain ⟨e1, e2, e3⟩ := S.ne ne
      refine ⟨st, g, l, e, [], rfl, upd_same, e1, e2, e3, by decide, S.same (same_upd ne), fun z H1 hz _ S1 k1 => ?_⟩
      obtain ⟨z1, z8⟩ := isWord_len hz
      have ht1 : H1 t = some (.lst (ws.map V.str)) := k1 _ _ (same_upd ne _ _ ht) t1 t2 t3
      -- at
      refine ⟨_, rfl, _, rfl, z, rfl, sz4 (by omega), _, _, rfl, rfl, st, g, l, _, rfl, by omega, by omega, S1, fun d H2 d0 d1 S2 k2 => ?_⟩
      have ht2 : H2 t = some (.lst (ws.map V.str)) := k2 _ _ ht1 t1 t2 t3
      -- sign
      refine ⟨_, rfl, _, rfl, (by decide +kernel), fun u1 nu1 => ⟨(by show 3 ≤ sizeLine; decide), fun u2 nu2 => ?_⟩⟩
      have su1 := same_upd (o := .lst ((("abcxyzABCXYZ019_.- :{}[]~@" : Str)).cps.toList.map fun c => V.str ⟨#[c]⟩)) nu1
      have su2 := same_upd (o := .lst [.str "", .str "ab", .str "\n"]) nu2
      refine ⟨u1, u2, _, _, rfl, rfl, su2 _ _ upd_same, upd_same, (by decide +kernel), fun u3 nu3 => ?_⟩
      refine absH fun H3 eH => ?_
      have sH3 : Same H2 H3 := by
        rw [eH]
        exact (su1.trans su2).trans (same_upd nu3)
      have hu3 : H3 u3 = some (.lst (((("abcxyzABCXYZ019_.- :{}[]~@" : Str)).cps.toList.map fun c => V.str ⟨#[c]⟩) ++ [.str "", .str "ab", .str "\n"])) := by rw [eH, upd_same]
      obtain ⟨f1, f2, f3⟩ := S2.ne (su1.free (su2.free nu3))
      clear eH
      refine ⟨st, g, l, u3, _, rfl, hu3, f1, f2, f3, by simp, (by decide +kernel), S2.same sH3, fun v H4 hv S4 k4 => ?_⟩
      obtain ⟨x, rfl, hx⟩ : ∃ x : Str, v = .str x ∧ x.length ≤ 2 := by
        rcases List.mem_append.mp hv with hv | hv
        · obtain ⟨c, _, rfl⟩ := List.mem_map.mp hv
          exact ⟨_, rfl, by show 1 ≤ 2; decide⟩
        · simp only [List.mem_cons, List.not_mem_nil, or_false] at hv
          rcases hv with rfl | rfl | rfl <;> exact ⟨_, rfl, by decide +kernel⟩
      have ht4 : H4 t = some (.lst (ws.map V.str)) := k4 _ _ (sH3 _ _ ht2) t1 t2 t3
      -- ahead
      have lc0 := cutS_length z none (some d)
      have lc1 := cutS_length z (some d) none
      have lc2 := cutS_length z (some (d + 1)) none
      refine ⟨_, rfl, _, rfl, d, rfl, z, rfl, sz4 (by omega), _, rfl, _, _, rfl, rfl, sz4 (by omega), ?_⟩
      have la : (cutS z none (some d) ++ x).length ≤ 10 := by
        rw [len_app]
        omega
      generalize cutS z none (some d) ++ x = ah at *
      -- texts.extend
      refine ⟨.ref t, rfl, .inl ⟨rfl, _, .inl (.inl ht4)⟩, _, rfl, _, rfl, z, 2, 8, 2, rfl, rfl, z8, by decide, by decide, by decide, by decide, _, rfl, _, rfl, _, rfl, d, rfl, z, rfl, sz4 (by omega), ah, _, rfl, rfl, sz4 (by omega), _, rfl, _, rfl, _, rfl, d, 1, rfl, rfl, d + 1, rfl, z, rfl, sz4 (by omega), ah, _, rfl, rfl, sz4 (by omega), (by show 4 ≤ sizeLine; decide), fun u nu => ?_⟩
      obtain ⟨h1, h2, h3⟩ := S4.ne nu
      refine ⟨t, u, _, _, rfl, rfl, same_upd nu _ _ ht4, upd_same, ?_, ?_⟩
      · rw [List.length_map]
        show ws.length + 4 ≤ sizeLine
        exact sz4 (by omega)
      refine absH fun H5 eH => ?_
      have S5 : StAt H5 st g l := by
        rw [eH]
        exact (S4.upd h1 h2 h3).upd t1 t2 t3
      have ht5 : H5 t = some (.lst ((ws ++ [z, Txt.mul z 2, ah ++ cutS z (some d) none, ah ++ cutS z (some (d + 1)) none]).map V.str)) := by
        rw [eH, upd_same]
        simp only [List.map_append]
        rfl
      have lm5 : ∀ y ∈ ws ++ [z, Txt.mul z 2, ah ++ cutS z (some d) none, ah ++ cutS z (some (d + 1)) none], y.length ≤ 40 := fun y hy => by
        rcases List.mem_append.mp hy with hy | hy
        · exact lm y hy
        · have m2 := mul_len z 2
          simp only [List.mem_cons, List.not_mem_nil, or_false] at hy
          rcases hy with rfl | rfl | rfl | rfl
          · omega
          · show (Txt.mul z ((2 : Nat) : Int)).length ≤ 40
            omega
          · rw [len_app]; omega
          · rw [len_app]; omega
      have ln5 : (ws ++ [z, Txt.mul z 2, ah ++ cutS z (some d) none, ah ++ cutS z (some (d + 1)) none]).length ≤ 63 + 6 * i + 4 := by
        rw [List.length_append]
        show ws.length + 4 ≤ _
        omega
      clear eH ht4 lm ln
      generalize ws ++ [z, Txt.mul z 2, ah ++ cutS z (some d) none, ah ++ cutS z (some (d + 1)) none] = ws5 at *
      -- texts.append, twice
      have l8 : (("abcdefgh" : Str)).length = 8 := by decide +kernel
      have lz8 : (z ++ "abcdefgh").length ≤ 16 := by
        rw [len_app]
        omega
      have lc9 := cutS_length (z ++ "abcdefgh") none (some 9)
      have lc8 := cutS_length (z ++ "abcdefgh") none (some 8)
      refine ⟨.ref t, rfl, .inl ⟨rfl, _, .inl (.inl ht5)⟩, _, rfl, z, "abcdefgh", rfl, rfl, sz4 (by omega), 9, rfl, _, rfl, sz4 (by omega), t, _, _, rfl, rfl, ht5, ?_, ?_⟩
      · rw [List.length_map]
        exact small1000 (by omega)
      refine absH fun H6 eH => ?_
      have S6 : StAt H6 st g l := by
        rw [eH]
        exact S5.upd t1 t2 t3
      have ht6 : H6 t = some (.lst ((ws5 ++ [cutS (z ++ "abcdefgh") none (some 9)]).map V.str)) := by
        rw [eH, upd_same]
        simp only [List.map_append]
        rfl
      clear eH
      refine ⟨.ref t, rfl, .inl ⟨rfl, _, .inl (.inl ht6)⟩, _, rfl, z, "abcdefgh", rfl, rfl, sz4 (by omega), 8, rfl, _, rfl, sz4 (by omega), t, _, _, rfl, rfl, ht6, ?_, ?_⟩
      · rw [List.length_map, List.length_append]
        show ws5.length + 1 < _
        exact small1000 (by omega)
      refine ⟨_, _, _, _, _, rfl, S6.upd t1 t2 t3, (ws5 ++ [cutS (z ++ "abcdefgh") none (some 9)]) ++ [cutS (z ++ "abcdefgh") none (some 8)], ?_, ?_, ?_⟩
      · rw [upd_same]
        simp only [List.map_append]
        rfl
      · rw [List.length_append, List.length_append]
        show ws5.length + 1 + 1 ≤ _
        omega
      · intro y hy
        rcases List.mem_append.mp hy with hy | hy
        · rcases List.mem_append.mp hy with hy | hy
          · exact lm5 y hy
          · have e : y = cutS (z ++ "abcdefgh") none (some 9) := by simpa using hy
            rw [e]; omega
        · have e : y = cutS (z ++ "abcdefgh") none (some 8) := by simpa using hy
          rw [e]; omega
    -- for text in texts + [..]
    obtain ⟨y3, y4, y5, y6, y7, rfl, S5, ⟨ws, ht, ln, lm⟩⟩ := p
    refine ⟨_, rfl, "a", 8, 1, 8, rfl, rfl, (by decide +kernel), by decide, by decide, by decide, by decide, "a", 9, 1, 9, rfl, rfl, (by decide +kernel), by decide, by decide, by decide, by decide, "a", 4000, 1, 4000, rfl, rfl, (by decide +kernel), by decide, by decide, by decide, by decide, (by show 6 ≤ sizeLine; decide), fun u nu => ?_⟩
    refine ⟨t, u, _, _, rfl, rfl, same_upd nu _ _ ht, upd_same, ?_, fun v nv => ?_⟩
    · rw [List.length_map]
      show ws.length + 6 ≤ _
      exact sz4 (by omega)
    have lall : ∀ y ∈ ws ++ more, y.length ≤ 10000 := fun y hy => by
      rcases List.mem_append.mp hy with hy | hy
      · exact Nat.le_trans (lm y hy) (by decide)
      · have m1 := mul_len "a" 8
        have m2 := mul_len "a" 9
        have m3 := mul_len "a" 4000
        have la : (("a" : Str)).length = 1 := by decide +kernel
        rw [la] at m1 m2 m3
        unfold more at hy
        simp only [List.mem_cons, List.not_mem_nil, or_false] at hy
        rcases hy with rfl | rfl | rfl | rfl | rfl | rfl
        · decide +kernel
        · decide +kernel
        · decide +kernel
        · show (Txt.mul "a" ((8 : Nat) : Int)).length ≤ 10000
          omega
        · show (Txt.mul "a" ((9 : Nat) : Int)).length ≤ 10000
          omega
        · show (Txt.mul "a" ((4000 : Nat) : Int)).length ≤ 10000
          omega
    refine ⟨v, rfl, ⟨_, .inl (.inl upd_same)⟩, ?_⟩
    have hv0 : ∀ G : Hp, (upd G v (.lst (ws.map V.str ++ [.str "", .str "a", .str "z", .str (Txt.mul "a" 8), .str (Txt.mul "a" 9), .str (Txt.mul "a" 4000)]))) v = some (.lst ((ws ++ more).map V.str)) := fun G => by
      rw [upd_same]
      simp only [List.map_append]
      rfl
    generalize hall : ws ++ more = all at lall hv0
    refine for_list (xs := all.map V.str) (fun i σ H => ∃ y3 y4 y5 y6 y7 y8 y9, σ = [some (.ref a), some (.ref st), some (.ref t), y3, y4, y5, y6, y7, y8, y9, none] ∧ StAt H st g l ∧ H v = some (.lst (all.map V.str))) ?_ (fun i σ H _ p => ?_) (fun i x σ H hx p => ?_) (fun σ H p => ?_)
    · exact ⟨y3, y4, y5, y6, y7, none, none, rfl, (S5.same (same_upd nu)).same (same_upd nv), hv0 _⟩
    · obtain ⟨_, _, _, _, _, _, _, _, _, h⟩ := p
      exact .inl (.inl h)
    · obtain ⟨y3, y4, y5, y6, y7, y8, y9, rfl, S, hv⟩ := p
      obtain ⟨z, rfl, hz⟩ := memS lall hx
      refine ⟨_, rfl, _, rfl, .inl ⟨z, rfl, hz, fun H1 s1 => ?_⟩⟩
      refine ⟨_, rfl, _, _, _, _, true, rfl, .ty "bool", .base (.bl _), kit_ty (by decide +kernel), true, rfl, ?_⟩
      refine iteF ?_
      refine ⟨_, rfl, _, rfl, z, rfl, hz, fun H2 s2 => ⟨rfl, _, rfl, ?_⟩⟩
      refine iteNN rfl ?_
      exact ⟨_, _, _, _, _, _, _, rfl, S.same (s1.trans s2), (s1.trans s2) _ _ hv⟩
    -- for turn in range(4)
    obtain ⟨y3, y4, y5, y6, y7, y8, y9, rfl, S7, _⟩ := p
    refine ⟨4, rfl, by decide, by decide, ?_⟩
    refine for_range (lo := 0) (n := 4) (fun i σ H => ∃ y4 y10, σ = [some (.ref a), some (.ref st), some (.ref t), y3, y4, y5, y6, y7, y8, y9, y10] ∧ StAt H st g l) ?_ (fun i σ H hi p => ?_) (fun σ H p => ?_)
    · exact ⟨y4, none, rfl, S7⟩
    · obtain ⟨y4, y10, rfl, S⟩ := p
      refine ⟨_, rfl, st, g, l, rfl, S, fun x H1 ho S1 k1 => ?_⟩
      rcases ho.kind (K := K) with ⟨z, rfl, hz⟩ | ⟨ty, hty, hk⟩
      · refine ⟨_, rfl, _, rfl, .inl ⟨z, rfl, by omega, fun H2 s2 => ⟨_, rfl, _, _, _, _, true, rfl, .ty "str", .base (.str z), kit_ty (by decide +kernel), true, rfl, ?_⟩⟩⟩
        refine iteT ?_
        refine ⟨_, rfl, z, rfl, by omega, fun H4 s4 => ⟨rfl, _, rfl, ?_⟩⟩
        refine iteNN rfl ?_
        have sH := s2.trans s4
        refine ⟨_, rfl, (by show 1 ≤ sizeLine; decide), fun u nu => ⟨_, rfl, .inr ⟨⟨"list", .base (.lst upd_same), by decide +kernel⟩, fun H5 s5 => ⟨_, rfl, ?_⟩⟩⟩⟩
        refine iteF ?_
        refine ⟨_, rfl, (by show 2 ≤ sizeLine; decide), fun u2 nu2 => ⟨_, rfl, .inr ⟨⟨"tuple", .base (.tup upd_same), by decide +kernel⟩, fun H6 s6 => ⟨_, rfl, ?_⟩⟩⟩⟩
        refine iteF ?_
        refine ⟨(by show 1 ≤ sizeLine; decide), fun u3 nu3 => ⟨_, rfl, .inr ⟨⟨"tuple", .base (.tup upd_same), by decide +kernel⟩, fun H7 s7 => ⟨_, rfl, ?_⟩⟩⟩⟩
        exact ⟨_, _, rfl, S1.same ((((((sH.trans (same_upd nu)).trans s5).trans (same_upd nu2)).trans s6).trans (same_upd nu3)).trans s7)⟩
      · have hty2 : ∀ H2, Same H1 H2 → ∃ ty, TyX K H2 x (.type ty) ∧ kitB ty "str" = some false := fun H2 s2 => by
          rcases (ho.same s2).kind (K := K) with ⟨z, rfl, hz⟩ | h
          · cases hty with
            | base b =>
              cases b with
              | str _ => exact absurd hk (by decide +kernel)
          · exact h
        refine ⟨_, rfl, _, rfl, .inr ⟨⟨ty, hty, hk⟩, fun H4 s4 => ?_⟩⟩
        obtain ⟨ty2, hty3, hk3⟩ := hty2 H4 s4
        refine ⟨_, rfl, _, _, _, _, false, rfl, .ty "str", hty3, kit_ty hk3, false, rfl, ?_⟩
        refine iteF ?_
        refine ⟨rfl, _, rfl, ?_⟩
        refine iteNN rfl ?_
        have sH := s4
        refine ⟨_, rfl, (by show 1 ≤ sizeLine; decide), fun u nu => ⟨_, rfl, .inr ⟨⟨"list", .base (.lst upd_same), by decide +kernel⟩, fun H5 s5 => ⟨_, rfl, ?_⟩⟩⟩⟩
        refine iteF ?_
        refine ⟨_, rfl, (by show 2 ≤ sizeLine; decide), fun u2 nu2 => ⟨_, rfl, .inr ⟨⟨"tuple", .base (.tup upd_same), by decide +kernel⟩, fun H6 s6 => ⟨_, rfl, ?_⟩⟩⟩⟩
        refine iteF ?_
        refine ⟨(by show 1 ≤ sizeLine; decide), fun u3 nu3 => ⟨_, rfl, .inr ⟨⟨"tuple", .base (.tup upd_same), by decide +kernel⟩, fun H7 s7 => ⟨_, rfl, ?_⟩⟩⟩⟩
        exact ⟨_, _, rfl, S1.same ((((((sH.trans (same_upd nu)).trans s5).trans (same_upd nu2)).trans s6).trans (same_upd nu3)).trans s7)⟩
    obtain ⟨y4, y10, rfl, S8⟩ := p
    have w1 : isWord "abc" = true := by decide +kernel
    refine ⟨_, rfl, .inl ⟨_, rfl, (by decide +kernel), fun H1 s1 => ⟨_, rfl, ?_⟩⟩⟩
    rw [w1]
    refine iteT ?_
    exact ⟨_, rfl, .inr ⟨⟨_, .base .non, by decide +kernel⟩, fun H2 s2 => ⟨_, rfl, q _⟩⟩⟩
end
end K95

namespace K95
open PySem PySem.Spec PyProof.Rows L2 Ub
theorem cal_of {P : Program} {w : World} {K : PySem.W.Frag} {h : Heap} {mg : Str → Option Value} {base : Heap} {x : Str} {st : Stmt} {ps : List Str} {k : Nat} {sp : Sp} {f : Addr} {fd : FuncData} (F : FunD K x x (defArgs st) (defBody st) (defScope st) [] [] f fd) (hm : mg x = some (.ref f))
    (hb : ∀ (dV kV doc pm : Value) (an : Option Addr) (cdv ct : Value) (us : List Value), us.length = ps.length → bindArgs (PySem.W.fnOf x x (defArgs st) (defBody st) (defScope st) .none kV doc pm an cdv ct) ⟨us, []⟩ = pure (ps.zip us))
    (ok : FnOk P w K mg base CX0 k f fd ps sp) : Cal P w K mg base k x ps sp := ⟨f, fd, ok, hm, F.kp, F.bindsN fun kV doc pm an cdv ct us hl => hb .none kV doc pm an cdv ct us hl⟩
theorem defAt {K : PySem.W.Frag} (d : He.SaysD fa fn K) (i : Nat) (x : Str) (st : Stmt) (h : fn[i]? = some (dd x st)) : ∃ fd, FunD K x x (defArgs st) (defBody st) (defScope st) [] [] (He.ga K x) fd := d.def_ i h
theorem facts {P : Program} {w : World} {K : PySem.W.Frag} {h : Heap} {mg : Str → Option Value} {f : Addr} (X : K.In h) (G : h.Ns mainGlobals mg) (hfa : mg ("law" : Str) = some (.ref f)) (c : He.SaysX fa fn [] [] ex w h K) :
    ∃ fd : FuncData, (∀ (s : Shared) (v : Value), BindsTo s fd ⟨[v], []⟩ [("_law_script", v)]) ∧ ∀ base : Heap, K.In base → base.Ns mainGlobals mg → FnOk P w K mg base CX0 4 f fd ["_law_script"] (sp_law K) := by
  have d := c.t.d
  obtain ⟨fd0, F0⟩ := defAt d 0 "is_word" s_is_word rfl
  obtain ⟨fd1, F1⟩ := defAt d 1 "_law_start" s_start rfl
  obtain ⟨fd2, F2⟩ := defAt d 2 "_law_draw" s_draw rfl
  obtain ⟨fd3, F3⟩ := defAt d 3 "_law_of" s_of rfl
  obtain ⟨fd4, F4⟩ := defAt d 4 "_law_word" s_word rfl
  obtain ⟨fd5, F5⟩ := defAt d 5 "_law_odd" s_odd rfl
  obtain ⟨fd6, F6⟩ := defAt d 6 "_law_good" s_good rfl
  obtain ⟨fd7, F7⟩ := defAt d 7 "law" s_law rfl
  have e := hfa.symm.trans (He.glo_ok X G (d.fact 7 (f := .glo "law") rfl))
  cases e
  have T : Tx mg := ⟨He.free_ok X G (d.fact 14 (f := .free "int") rfl), He.free_ok X G (d.fact 12 (f := .free "len") rfl), He.free_ok X G (d.fact 15 (f := .free "abs") rfl), He.free_ok X G (d.fact 16 (f := .free "range") rfl), He.free_ok X G (d.fact 17 (f := .free "list") rfl), He.free_ok X G (d.fact 10 (f := .free "isinstance") rfl), He.free_ok X G (d.fact 11 (f := .free "str") rfl), He.free_ok X G (d.fact 18 (f := .free "bool") rfl), He.free_ok X G (d.fact 13 (f := .free "all") rfl)⟩
  obtain ⟨tl, hL⟩ := He.str_ok X G (d.fact 9 (f := .str "LETTERS" "abcdefghijklmnopqrstuvwxyz") rfl)
  have hK := He.glo_ok X G (d.fact 8 (f := .glo "KEPT_WORDS") rfl)
  have sK : ∀ H, SqT K H (He.ga K "KEPT_WORDS") keptV := fun H => He.tupB_ok c.more H
  have b := FunD.bindsA (ps := ["_law_script"]) F7 fun _ _ _ _ _ _ us hl => match us, hl with | [_], _ => rfl
  refine ⟨fd7, fun s v => b s [v] rfl, fun base _ _ => ?_⟩
  have c0 : Cal P w K mg base 1 "is_word" ["text"] (sp_is_word K) := cal_of (h := h) F0 (He.glo_ok X G (d.fact 0 (f := .glo "is_word") rfl)) (fun _ _ _ _ _ _ _ us hl => match us, hl with | [_], _ => rfl) (ok_is_word F0 T hL hK sK)
  have c1 : Cal P w K mg base 1 "_law_start" ["_law_script"] (sp_start K) := cal_of (h := h) F1 (He.glo_ok X G (d.fact 1 (f := .glo "_law_start") rfl)) (fun _ _ _ _ _ _ _ us hl => match us, hl with | [_], _ => rfl) (ok_start F1 T)
  have c2 : Cal P w K mg base 1 "_law_draw" ["_law_state", "_law_many"] sp_draw := cal_of (h := h) F2 (He.glo_ok X G (d.fact 2 (f := .glo "_law_draw") rfl)) (fun _ _ _ _ _ _ _ us hl => match us, hl with | [_, _], _ => rfl) (ok_draw F2 T)
  have c3 : Cal P w K mg base 2 "_law_of" ["_law_state", "_law_some"] sp_of := cal_of (h := h) F3 (He.glo_ok X G (d.fact 3 (f := .glo "_law_of") rfl)) (fun _ _ _ _ _ _ _ us hl => match us, hl with | [_, _], _ => rfl) (ok_of F3 T ⟨c2⟩)
  have c4 : Cal P w K mg base 2 "_law_word" ["_law_state", "_law_taken"] sp_word := cal_of (h := h) F4 (He.glo_ok X G (d.fact 4 (f := .glo "_law_word") rfl)) (fun _ _ _ _ _ _ _ us hl => match us, hl with | [_, _], _ => rfl) (ok_word F4 T ⟨c2⟩)
  have c5 : Cal P w K mg base 3 "_law_odd" ["_law_state"] sp_odd := cal_of (h := h) F5 (He.glo_ok X G (d.fact 5 (f := .glo "_law_odd") rfl)) (fun _ _ _ _ _ _ _ us hl => match us, hl with | [_], _ => rfl) (ok_odd F5 T ⟨c3⟩)
  have c6 : Cal P w K mg base 1 "_law_good" ["_law_word_here"] sp_good := cal_of (h := h) F6 (He.glo_ok X G (d.fact 6 (f := .glo "_law_good") rfl)) (fun _ _ _ _ _ _ _ us hl => match us, hl with | [_], _ => rfl) (ok_good F6 T)
  exact ok_law F7 T ⟨c1, c2, c3, c4, c5, c6, c0⟩
end K95
open PySem PySem.W PySem.Calls PyProof.Rows
set_option maxHeartbeats 0 in
theorem PySem.Challenge.cw_unseenwrites_k95_words_holds : PySem.Challenge.rw_unseenwrites_k95_words.Holds := by
  w_on; o_law
  refine HandSHeadRun.head_any (r := OpenLaw.row PySem.Challenge.rw_unseenwrites_k95_words) (q := view (OpenLaw.row PySem.Challenge.rw_unseenwrites_k95_words).prog [11]) (H := K95.hk) (ob := K95.ob) (M := 800) (loose := K95.loose) (d := HandSHeadRun.topDef (OpenLaw.row PySem.Challenge.rw_unseenwrites_k95_words).prog 11) (kwd := []) K95.ob_eq
    (by kernel_rfl) (fun s => by kernel_rfl) K95.run (by kernel_rfl) (by kernel_rfl) (by kernel_rfl) (by rfl) (by first | assumption | decide +kernel) (by decide +kernel) ⟨rfl, rfl, rfl, rfl, rfl, by decide +kernel⟩ ?hw ?hc
  case hw => w_witness2
  case hc =>
    refine L2.walk_ofE (l := PySem.Challenge.rw_unseenwrites_k95_words) (n := 63) (k := 4) (x := "_law_script") (CX := L2.CX0) rfl (by decide) (by kernel_rfl) ⟨rfl, by decide, by decide⟩ ?F (fun _ _ _ _ z => z)
    intro w mg fa h Y G hmg0
    obtain ⟨K, KX, c⟩ := Y
    have hmg : mg ("law" : PySem.Str) = some (.ref fa) := by
      have e : (HandSHeadRun.topDef (OpenLaw.row PySem.Challenge.rw_unseenwrites_k95_words).prog 11).name = ("law" : PySem.Str) := by kernel_rfl
      rw [← e]
      exact hmg0
    obtain ⟨fd, hb, hF⟩ := K95.facts (P := (PySem.Challenge.rw_unseenwrites_k95_words).prog) (w := w) KX G hmg c
    exact ⟨K, fd, K95.sp_law K, KX, hb, fun H a ns hl _ hS => ⟨a, ns, rfl, hS, hl, fun _ => rfl⟩, hF⟩
