import PyProof.Rows.All
import Wide.All
import OpenK.AllK
import Wide.FinOn
import HandS.ForMost
import HandS.Walk
import HandS.DictComp
import HandS.IsInst
import HandS.More
import HandS.RaiseMore
import KE.KDictList
import HandS.ListItems
import HandS.Star
import HandS.Property
import HandS.OwnEq
import HandS.Finally
import HandS.Style
import KE.KOpsOwn
import HandS.IterVal
import HandS.Lambda
import KE.KOwnIter
import HandS.ListEq
import HandS.DictEq
import HandS.Codes
import HandS.Wide
import HandS.ForExc
import HandS.ExcInit
import HandS.ExcField
import HandS.TryMany
import HandS.ExcOwn
import HandS.ExcIs
import PySem.Challenge.RW_wishedwires_k37_matchings_to_a_power
set_option Elab.async false
set_option linter.all false
set_option maxRecDepth 100000
set_option maxHeartbeats 4000000
namespace WW
open PySem PySem.Spec PyProof.Rows L2
/-! ### texts in order -/
def leS (a b : Str) : Bool := !decide (b.cps.toList < a.cps.toList)
theorem leS_anti {a b : Str} (h1 : leS a b = true) (h2 : leS b a = true) : a = b := by
  unfold leS at h1 h2
  simp only [Bool.not_eq_true', decide_eq_false_iff_not] at h1 h2
  have e : a.cps.toList = b.cps.toList := List.le_antisymm (Std.not_lt.mp h1) (Std.not_lt.mp h2)
  cases a; cases b
  simp only [Str.mk.injEq]
  exact Array.toList_inj.mp e
theorem leS_trans {a b c : Str} (h1 : leS a b = true) (h2 : leS b c = true) : leS a c = true := by
  unfold leS at h1 h2 ⊢
  simp only [Bool.not_eq_true', decide_eq_false_iff_not] at h1 h2 ⊢
  exact Std.not_lt.mpr (List.le_trans (Std.not_lt.mp h1) (Std.not_lt.mp h2))
theorem leS_total (a b : Str) : (leS a b || leS b a) = true := by
  unfold leS
  by_cases h : b.cps.toList < a.cps.toList
  · have : ¬ a.cps.toList < b.cps.toList := fun h' => List.lt_irrefl _ (List.lt_trans h h')
    simp [this]
  · simp [h]
def sortS (l : List Str) : List Str := l.mergeSort leS
theorem sortS_perm (l : List Str) : (sortS l).Perm l := List.mergeSort_perm l leS
theorem sortS_pairwise (l : List Str) : (sortS l).Pairwise (fun a b => leS a b = true) := List.pairwise_mergeSort (le := leS) (fun a b c => leS_trans) leS_total l
theorem risingS_pw : ∀ (l : List Str) (p : Str), risingS p l = true → (p :: l).Pairwise (fun a b => leS a b = true)
  | [], p, _ => by simp
  | x :: r, p, h => by
    have h : (!ltCps x.cps.toList p.cps.toList && risingS x r) = true := h
    rw [Bool.and_eq_true] at h
    have ih := risingS_pw r x h.2
    have e : leS p x = true := by rw [ltCps_eq] at h; exact h.1
    refine List.pairwise_cons.mpr ⟨fun y hy => ?_, ih⟩
    rcases List.mem_cons.mp hy with rfl | hy
    · exact e
    · exact leS_trans e ((List.pairwise_cons.mp ih).1 y hy)
theorem sortedS_pw (l : List Str) (h : sortedS l = true) : l.Pairwise (fun a b => leS a b = true) := by
  cases l with
  | nil => simp
  | cons x r => exact risingS_pw r x h
theorem sortS_of {l ys : List Str} (p : ys.Perm l) (h : sortedS ys = true) : ys = sortS l := by
  refine List.Perm.eq_of_pairwise (le := fun a b => leS a b = true) (fun a b _ _ => leS_anti) (sortedS_pw ys h) (sortS_pairwise l) (p.trans (sortS_perm l).symm)
theorem sortS_congr {l m : List Str} (p : l.Perm m) : sortS l = sortS m :=
  List.Perm.eq_of_pairwise (le := fun a b => leS a b = true) (fun a b _ _ => leS_anti) (sortS_pairwise l) (sortS_pairwise m) ((sortS_perm l).trans (p.trans (sortS_perm m).symm))
theorem sortS_length (l : List Str) : (sortS l).length = l.length := (sortS_perm l).length_eq

/-! ### comprehensions whose turns leave the heap as it is -/
theorem upd_upd {H : Hp} {D : Addr} {o u : HO} : upd (upd H D o) D u = upd H D u := by
  funext b
  unfold upd
  by_cases h : b = D <;> simp [h]
theorem lcA {J : It} {n : Nat} {G : Hp → Prop} {Y : Nat → Hp → V → Hp → Prop} (w : Walk J n G Y) {g : TG} {tt : TT} {te : TE} {vs : List Nat} {σ : L2.St} {H1 : Hp} {D : Addr} {Qd : Hp → Prop} (A : Nat → List V) (h0 : A 0 = []) (hz : ∀ i, i < n → (A i).length < sizeLine)
    (hG : ∀ acc, G (upd H1 D (.lst acc)))
    (hs : ∀ i x H', i < n → Y i (upd H1 D (.lst (A i))) x H' → H' = upd H1 D (.lst (A i)) ∧ ∀ (R : V → Hp → Prop) (NX : Hp → Prop), (∀ y, A (i + 1) = A i ++ [y] → R y H') → (A (i + 1) = A i → NX H') →
      g x (wipe σ vs) H' fun σ2 H2 => wipe σ2 vs = wipe σ vs ∧ tt σ2 H2 fun b H3 => if b = true then te σ2 H3 R else NX H3)
    (hd : Qd (upd H1 D (.lst (A n)))) :
    ∃ W : Nat → Nat → Hp → Prop, (∃ m, W 0 m (upd H1 D (.lst []))) ∧ ∀ i m H, W i m H →
      (J.stop i H ∧ Qd H) ∨ (J.go i H ∧ ∃ Nx : Hp → Prop, (∀ H', Nx H' → ∃ m', m' < m ∧ W (i + 1) m' H') ∧ ∀ x H', J.yld i H x H' → g x (wipe σ vs) H' fun σ2 H2 => wipe σ2 vs = wipe σ vs ∧ tt σ2 H2 fun b H3 =>
        if b = true then te σ2 H3 fun y H4 => ∃ acc, H4 D = some (.lst acc) ∧ acc.length < sizeLine ∧ Nx (upd H4 D (.lst (acc ++ [y]))) else Nx H3) := by
  refine ⟨fun i m H => m = n - i ∧ i ≤ n ∧ H = upd H1 D (.lst (A i)), ⟨n, by simp, Nat.zero_le _, by rw [h0]⟩, ?_⟩
  rintro i m H ⟨rfl, hi, rfl⟩
  have q := hG (A i)
  by_cases hlt : i < n
  · refine .inr ⟨w.goes i _ hlt q, fun H' => H' = upd H1 D (.lst (A (i + 1))), fun H' p' => ⟨n - (i + 1), by omega, rfl, hlt, p'⟩, fun x H' y => ?_⟩
    obtain ⟨e, k⟩ := hs i x H' hlt (w.yields i _ x H' hlt q y)
    subst e
    exact k _ _ (fun y hy => ⟨A i, upd_same, hz i hlt, by rw [upd_upd, hy]⟩) (fun hy => by rw [hy])
  · have e : i = n := by omega
    subst e
    exact .inl ⟨w.stops _ q, hd⟩
/-- every item is kept -/
theorem lcM {J : It} {n : Nat} {G : Hp → Prop} {Y : Nat → Hp → V → Hp → Prop} (w : Walk J n G Y) {g : TG} {te : TE} {vs : List Nat} {σ : L2.St} {H1 : Hp} {D : Addr} {Qd : Hp → Prop} (ys : List V) (hn : ys.length = n) (hz : n < 1000)
    (hG : ∀ acc, G (upd H1 D (.lst acc)))
    (hs : ∀ i x y acc H', ys[i]? = some y → Y i (upd H1 D (.lst acc)) x H' → H' = upd H1 D (.lst acc) ∧ ∀ R : V → Hp → Prop, R y H' → g x (wipe σ vs) H' fun σ2 H2 => wipe σ2 vs = wipe σ vs ∧ te σ2 H2 R)
    (hd : Qd (upd H1 D (.lst ys))) :
    ∃ W : Nat → Nat → Hp → Prop, (∃ m, W 0 m (upd H1 D (.lst []))) ∧ ∀ i m H, W i m H →
      (J.stop i H ∧ Qd H) ∨ (J.go i H ∧ ∃ Nx : Hp → Prop, (∀ H', Nx H' → ∃ m', m' < m ∧ W (i + 1) m' H') ∧ ∀ x H', J.yld i H x H' → g x (wipe σ vs) H' fun σ2 H2 => wipe σ2 vs = wipe σ vs ∧ tYes σ2 H2 fun b H3 =>
        if b = true then te σ2 H3 fun y H4 => ∃ acc, H4 D = some (.lst acc) ∧ acc.length < sizeLine ∧ Nx (upd H4 D (.lst (acc ++ [y]))) else Nx H3) := by
  refine lcA w (fun i => ys.take i) (by simp) (fun i hi => small1000 (by rw [List.length_take]; omega)) hG (fun i x H' hi hy => ?_) (by show Qd (upd H1 D (.lst (ys.take n))); rw [List.take_of_length_le (by omega)]; exact hd)
  have hi' : i < ys.length := by omega
  obtain ⟨e, k⟩ := hs i x ys[i] _ H' (by simp [hi']) hy
  refine ⟨e, fun R NX h1 h2 => ?_⟩
  have := k R (h1 ys[i] (by rw [List.take_succ_eq_append_getElem hi']))
  unfold tYes
  simpa using this
end WW
namespace WW
open PySem PySem.Spec PyProof.Rows L2
def tListVals (te : TE) : TE := fun σ H Q => te σ H fun x H1 => ∃ (d : Addr) (kvs : List (Key × V)), x = .ref d ∧ H1 d = some (.dK kvs) ∧ ∀ p, H1 p = none → Q (.ref p) (upd H1 p (.lst (kvs.map (·.2))))
theorem vals_at : ∀ {kvs : List (Key × V)} {vs : List (Key × Value)} (r : KV kvs vs) {l : List Value}, l.length = vs.length → (∀ (j : Nat) (v : Value), l[j]? = some v → ∃ k, vs[j]? = some (k, v)) → Vals (kvs.map (·.2)) l
  | [], [], .nil, l, hl, _ => by
    cases l with
    | nil => exact .nil
    | cons _ _ => simp at hl
  | p :: kvs, q :: vs, .cons h t, l, hl, he => by
    cases l with
    | nil => simp at hl
    | cons u l =>
      obtain ⟨k, e⟩ := he 0 u rfl
      have e' := Option.some.inj (show some q = some (k, u) from e)
      refine .cons ?_ (vals_at t (by simpa using hl) fun j v ej => he (j + 1) v ej)
      have := h.2
      rw [e'] at this
      exact this
section
variable {X : Cx} {e : Expr} {te : TE} {p apos cpos pos : Pos}
/-- list(e.values()) -/
theorem pe_listVals (hc : X.calm = true) (he : PE X e te) (hg : Gl X "list") (hm : X.mg "list" = none) (hv : bootBuiltins "list" = some (.type "list")) (hbase : attributeBase e "values" X.env (eval e X.env) = eval e X.env := by rfl) (hline : (apos.endLine == cpos.line) = true := by rfl)
    (hs : starEach [.Call (.Attribute e "values" apos) [] [] cpos] X.env = (false, eval (.Call (.Attribute e "values" apos) [] [] cpos) X.env) :: starEach [] X.env := by rfl) :
    PE X (.Call (.Name "list" p) [.Call (.Attribute e "values" apos) [] [] cpos] [] pos) (tListVals te) := by
  refine ⟨fun pins s σ H Q I hq => ?_⟩
  refine wpAny_Call_Name_kw (ld_blt I hg hm hv ?_)
  refine PyProof.Rows.callWith_type1 ?_ hs rfl
  rw [hs]
  show wpAny _ _ (spliced ((false, eval (.Call (.Attribute e "values" apos) [] [] cpos) X.env) :: backTo pos (starEach [] X.env))) _ _ s
  refine Calls.spliced_cons ?_
  refine wpAny_Call_method (T := "dict") (id := "dict.values") hbase rfl hline F.plainAttrs_dict F.slot_dict_values F.type_dict_values (thn (he.run pins s σ H _ I hq) fun u s1 ⟨x, H1, I1, rx, d, kvs, ex, hd, q⟩ => ?_)
  subst ex
  obtain rfl : u = Value.ref d := rx
  obtain ⟨hz, hs0, vs, kv, hdo⟩ := I1.hok d _ hd
  obtain ⟨ep, hat⟩ := hdo.dictAt
  have lk : kvs.length = vs.length := Paired.length kv
  have I2 : Inv X pins σ H1 { s1 with heap := s1.heap.push { cls := .type "dict_values", data := .fields #[.ref d] } } := I1.kept (t' := s1.toks) fun b ob q => Heap.get?_push_of_some _ q
  refine ⟨hdo.typeIs, hdo.mapOf.noDict, ?_⟩
  show wpAny _ _ (callWith cpos (.builtin "dict.values") [.ref d] [] []) _ X.xe s1
  refine method_meetsIn F.slot_dict_values F.entry_dict_values rfl (PySem.evalArgs_none ⟨rfl, hdo.typeIs, F.args_dict_values_1 _, _, meets_dict_values (mixKind X.prog X.w) d hs0, ⟨vs, hdo⟩, ?_⟩)
  refine Calls.spliced_nil ?_
  refine PySem.W.kdl_call (PySem.W.kdl_values (knd := mixKind X.prog X.w) (kvs := vs) (ep := ep) (d := d) (r := s1.heap.objs.size)) (I1.ok.hd hc) ⟨⟨_, Heap.get?_push_size _ rfl, rfl, rfl⟩, hat.push _⟩ (by omega) fun h' tk acc c' hk hD hacc => ?_
  have hv : Vals (kvs.map (·.2)) acc.toList := vals_at kv (by rw [Array.length_toList]; exact hacc.1) fun j v e => hacc.2 j v (by rw [← Array.getElem?_toList]; exact e)
  refine ⟨.ref _, upd H1 _ (.lst (kvs.map (·.2))), I2.laid (t' := tk) hk (Nat.le_refl _)
    (show ObjOk X.prog X.w _ _ _ (.lst (kvs.map (·.2))) from ⟨by rw [List.length_map]; exact hz, acc.toList, c', hv, by rw [Array.toArray_toList]; exact hD⟩), rfl, q _ (I2.hok.fresh (Nat.le_refl _))⟩
end
end WW
namespace WW
open PySem PySem.Spec PyProof.Rows L2
section
open PySem.W
variable {prog : Program} {w : World} {A : Around} {E : Value → Shared → Prop} {s : Shared} {K : Frag} {x C L f : Addr} {h₀ : Heap} {m : Str → Option Value} {ox : Obj} {od : Option Obj} {b tb : Value}
/-- a op b, both of the class C, by C's own method -/
theorem bin_same {op : Operator} {Q : Value → Shared → Prop} (X : K.In s.heap) (I : InstAt s.heap x ox C od) (hb : Looks (model prog w) s.heap (typeOf b) (.ref C)) (hc : selfFirst K C = true)
    (hs : findIn K (.ref C) (PySem.dunder op.info.2) = some (some (.ref f))) (hf : isFn K (.ref f) = true)
    (h : wpAny (model prog w) A (call (.ref f) [.ref x, b]) (PySem.W.CmpBack Q) E s) : wpAny (model prog w) A (binaryOp op (.ref x) b) Q E s := by
  obtain ⟨cd, rest, hcd, hm⟩ := ksp_first hc
  rcases hi : op.info with ⟨sym, nm'⟩
  rw [hi] at hs
  dsimp only at hs
  have one := ksp_try X I hs hf h
  obtain ⟨hh, g, d, tt, os⟩ := s
  have L1 : Looks (model prog w) hh (typeOf (.ref x)) (.ref C) := I.type
  have L3 : Looks (model prog w) hh (fillsNumberSlot (.ref C) nm') true := fills_K X hcd hm hs
  have hne : (Value.ref C == Value.ref C) = true := by simp
  simp only [binaryOp, hi]
  refine wpAny_holding (wpAny_bind ?_)
  unfold binaryOp1
  refine wpAny_bind (L1.at (wpAny_bind (hb.at (wpAny_bind (L3.at ?_)))))
  simp only [hne, if_true]
  ksp_lk
  refine wpAny_mono one (fun r s' hr' => ?_) fun _ _ e => e
  obtain ⟨v, rfl, hq⟩ := hr'
  ksp_lk
  exact hq
theorem inv_own {Q : Value → Shared → Prop} (X : K.In s.heap) (I : InstAt s.heap x ox C od) (hs : findIn K (.ref C) "__invert__" = some (some (.ref f))) (hf : isFn K (.ref f) = true)
    (h : wpAny (model prog w) A (call (.ref f) [.ref x]) Q E s) : wpAny (model prog w) A (unaryOp .Invert (.ref x)) Q E s := by
  unfold unaryOp
  refine wpAny_holding ?_
  exact wpAny_bind (special_fn X I hs (beq_iff_eq.mp hf) (wpAny_mono h (fun _ _ z => wpAny_pure z) fun _ _ z => z))
end
/-! ### the readings -/
/-- a callee runs, its answer no NotImplemented -/
theorem run_fnB {X : Cx} {CX : CXT} {k : Nat} {f : Addr} {fd : FuncData} {ps : List Str} {sp : Sp} {ds : List Value} {dvs : List V} {E : XK} {pins : List (Addr × Obj)} {σ : L2.St} {H : Hp} {s : Shared} {Q : VK} {us : List Value} {vs : List V} (F : FnOk X.prog X.w X.K X.mg X.base CX k f fd ps sp) (hr : Room k X.A) (hb : Binds X.K fd ps ds) (hd : Vals dvs ds) (hx : Passes CX X E)
    (I : Inv X pins σ H s) (r : Vals vs us) (h : sp (vs ++ dvs) H Q E) : wpAny (model X.prog X.w) X.A (call (.ref f) us) (PySem.W.CmpBack (EP X pins σ Q)) X.xe s := by
  refine wpAny_mono (run_fn F hr hb hd hx I r h) (fun v s' hv => ?_) fun _ _ e => e
  obtain ⟨u, H', I', ru, q⟩ := hv
  cases v with
  | notImplemented =>
    exfalso
    cases u with
    | non => cases ru
    | bl _ => cases ru
    | int _ => obtain ⟨_, z⟩ := ru; cases z
    | str _ => obtain ⟨_, z⟩ := ru; cases z
    | byt _ => obtain ⟨_, z⟩ := ru; cases z
    | flt _ => obtain ⟨_, z⟩ := ru; cases z
    | ref _ => cases ru
    | ty _ => cases ru
  | _ => exact ⟨u, H', I', ru, q⟩
section
variable {X : Cx} {CX : CXT} {k : Nat} {f C : Addr} {fd : FuncData} {ps : List Str} {sp : Sp} {E : XK}
def rOwn2 (C : Addr) (sp : Sp) (E : XK) : R2 := fun x y H Q => ∃ (a b dx dy : Addr) (fs gs : List (Str × V)), x = .ref a ∧ y = .ref b ∧ H a = some (.ins C dx fs) ∧ H b = some (.ins C dy gs) ∧ sp [.ref a, .ref b] H Q E
theorem op_own {op : Operator} (hc : PySem.W.selfFirst X.K C = true) (hm : Meth X.K C (PySem.dunder op.info.2) f) (F : FnOk X.prog X.w X.K X.mg X.base CX k f fd ps sp) (hr : Room k X.A) (hb : Binds X.K fd ps []) (hx : Passes CX X E) : OpR X (binaryOp op) (rOwn2 C sp E) := by
  intro pins s σ H x y v u Q I rx ry hq
  obtain ⟨a, b, dx, dy, fs, gs, rfl, rfl, ha, hb', h⟩ := hq
  cases rx
  cases ry
  obtain ⟨mA, J, _⟩ := ins_get I.hok ha
  obtain ⟨mB, J', _⟩ := ins_get I.hok hb'
  obtain ⟨od, J, _⟩ := J.look
  obtain ⟨od', J', _⟩ := J'.look
  exact bin_same I.kIn J J'.type hc hm.at_ hm.fn (run_fnB (us := [.ref a, .ref b]) (vs := [.ref a, .ref b]) F hr hb .nil hx I (.cons rfl (.cons rfl .nil)) h)
def rOwn1 (C : Addr) (sp : Sp) (E : XK) : V → Hp → VK → Prop := fun x H Q => ∃ (a dx : Addr) (fs : List (Str × V)), x = .ref a ∧ H a = some (.ins C dx fs) ∧ sp [.ref a] H Q E
theorem un_own (hm : Meth X.K C "__invert__" f) (F : FnOk X.prog X.w X.K X.mg X.base CX k f fd ps sp) (hr : Room k X.A) (hb : Binds X.K fd ps []) (hx : Passes CX X E) : UnR X (unaryOp .Invert) (rOwn1 C sp E) := by
  intro pins s σ H x v Q I rx hq
  obtain ⟨a, dx, fs, rfl, ha, h⟩ := hq
  cases rx
  obtain ⟨mA, J, _⟩ := ins_get I.hok ha
  obtain ⟨od, J, _⟩ := J.look
  exact inv_own I.kIn J hm.at_ hm.fn (run_fn (us := [.ref a]) (vs := [.ref a]) F hr hb .nil hx I (.cons rfl .nil) h)
end
/-! ### == and != by an own __eq__ -/
/-- the right side's type -/
def TyE (K : PySem.W.Frag) (C : Addr) (H : Hp) (y : V) (t : Value) : Prop := (∃ (b dy : Addr) (gs : List (Str × V)), y = .ref b ∧ H b = some (.ins C dy gs) ∧ t = .ref C) ∨ TyX K H y t
theorem tyE_looks {X : Cx} {C : Addr} {pins : List (Addr × Obj)} {σ : L2.St} {H : Hp} {s : Shared} {y : V} {u t : Value} (I : L2.Inv X pins σ H s) (ry : L2.RelV y u) (ty : TyE X.K C H y t) (M : Model) : PySem.W.Looks M s.heap (typeOf u) t := by
  rcases ty with ⟨b, dy, gs, rfl, hb, rfl⟩ | ty
  · cases ry
    obtain ⟨mB, J, _⟩ := ins_get I.hok hb
    obtain ⟨od, J, _⟩ := J.look
    exact J.type
  · obtain ⟨P, Z, p, _⟩ := kit_of I ry ty
    exact Z.ty M s.heap I.kIn p
section
open PySem.W
variable {prog : Program} {w : World} {A : Around} {E : Value → Shared → Prop} {s : Shared} {K : Frag} {x C L f : Addr} {h₀ : Heap} {m : Str → Option Value} {ox : Obj} {od : Option Obj} {b tb : Value}
theorem neCall {Q : Value → Shared → Prop} (hu : A.units + 1 < cLine) (X : K.In s.heap) (I : InstAt s.heap x ox C od) (hob : mroIn K C (.type "object") = some true)
    (hs : findIn K (.ref C) "__eq__" = some (some (.ref f))) (hf : isFn K (.ref f) = true)
    (h : wpAny (model prog w) A.in1 (call (.ref f) [.ref x, b]) (fun v s' => ∃ k, v = .bool k ∧ Q (.bool (!k)) s') E s) : wpAny (model prog w) A (call (.builtin "object.__ne__") [.ref x, b]) Q E s := by
  have sub : Looks (model prog w) s.heap (isInstance (.ref x) (.type "object")) true := I.type.andThen (looks_mroIn X hob)
  refine wpAny_call (codeAny_call_builtin (by decide +kernel) F.cmpEntry_ne (check_slot F.cmpKind_ne F.cmpSplit_ne sub (F.cmpArgs_ne _ _) ?_))
  unfold Builtin.«object.__ne__»
  repeat (first
    | with_reducible refine wpAny_cRoomFor hu ?_
    | (refine wpAny_bind (m := callSpecialIfBound? (.ref x) (Str.ofString "__eq__") [b]) (ifBound_K X I hs hf (wpAny_mono h (fun r s' hr => by
          obtain ⟨k, rfl, hq⟩ := hr
          repeat (first | exact hq | exact wpAny_pure hq | exact wpAny_truthy_bool hq | (refine wpAny_bind (m := truthy (.bool _)) (wpAny_truthy_bool ?_)) | wp_step)) fun _ _ e => e)))
    | wp_step)
theorem ne_own {Q : Value → Shared → Prop} (hu : A.units + 1 < cLine) (X : K.In s.heap) (I : InstAt s.heap x ox C od) (hb : Looks (model prog w) s.heap (typeOf b) tb) (hn : notFirst K C tb = true) (hob : mroIn K C (.type "object") = some true)
    (hne : findIn K (.ref C) "__ne__" = some (some (.builtin "object.__ne__"))) (hs : findIn K (.ref C) "__eq__" = some (some (.ref f))) (hf : isFn K (.ref f) = true)
    (h : wpAny (model prog w) A.in1 (call (.ref f) [.ref x, b]) (fun v s' => ∃ k, v = .bool k ∧ Q (.bool (!k)) s') E s) : wpAny (model prog w) A (richCompare .NotEq (.ref x) b) Q E s := by
  have one : wpAny (model prog w) A (tryCompare (.ref x) (cmpInfo .NotEq).2.1 b) (fun r s' => ∃ v, r = some v ∧ Q v s') E s := by
    unfold tryCompare
    have fin : wpAny (model prog w) A (call (.builtin "object.__ne__") ([.ref x] ++ [b]) >>= fun v => pure (some v)) (fun r s' => ∃ k, r = some (Value.bool k) ∧ Q (.bool k) s') E s :=
      wpAny_bind (neCall (Q := fun v s' => wpAny (model prog w) A (pure (some v)) _ E s') hu X I hob hs hf (wpAny_mono h (fun v s' h' => by
        obtain ⟨k, e, q⟩ := h'
        exact ⟨k, e, wpAny_pure ⟨_, rfl, q⟩⟩) fun _ _ h' => h'))
    refine wpAny_bind (wpAny_mono (Q := fun r s' => ∃ k, r = some (Value.bool k) ∧ Q (.bool k) s') (E := E) ?_ (fun r s' hr => ?_) fun _ _ e => e)
    · simp only [callSpecialIfBound?, bindSpecialIfBound?]
      refine wpAny_holding (wpAny_bind (wpAny_bind (wpAny_bind (I.type.here ((looks_findIn X hne).here ?_)))))
      refine wpAny_bind (wpAny_askSetting (wpAny_ite ?_))
      have hbd : bindSpecial (.builtin "object.__ne__") (.ref x) = pure (.builtin "object.__ne__", [.ref x]) := F.slot_zip_ne.bind _
      split
      · rw [hbd]
        exact wpAny_bind (wpAny_pure (wpAny_pure (by exact fin)))
      · rw [hbd]
        exact wpAny_tryCatch (wpAny_bind (wpAny_pure (wpAny_pure (by exact fin))))
    · obtain ⟨k, rfl, q⟩ := hr
      exact wpAny_pure ⟨_, rfl, q⟩
  unfold richCompare
  simp only [oneThing_ref]
  refine wpAny_holding (wpAny_bind (wpAny_cRoomFor (by omega) ?_))
  refine wpAny_bind (I.type.here (wpAny_bind (hb.here ?_)))
  split
  · rename_i q
    have e : subIn K tb (.ref C) = some false := by
      rcases Bool.or_eq_true_iff.mp hn with e | e
      · rw [beq_iff_eq.mp e] at q; simp at q
      · exact beq_iff_eq.mp e
    refine wpAny_bind ((looks_subIn X e).here ?_)
    simp only [Bool.false_eq_true, if_false]
    refine wpAny_bind (wpAny_mono one (fun r s' z => ?_) fun _ _ e => e)
    obtain ⟨v, rfl, hq⟩ := z
    exact wpAny_pure hq
  · refine wpAny_bind (wpAny_pure ?_)
    simp only [Bool.false_eq_true, if_false]
    refine wpAny_bind (wpAny_mono one (fun r s' z => ?_) fun _ _ e => e)
    obtain ⟨v, rfl, hq⟩ := z
    exact wpAny_pure hq
end
/-- what the text says of C's == -/
structure EqTxt (K : PySem.W.Frag) (C f : Addr) : Prop where
  eq : Meth K C "__eq__" f
  ne : PySem.W.findIn K (.ref C) "__ne__" = some (some (.builtin "object.__ne__"))
  ob : PySem.W.mroIn K C (.type "object") = some true
section
variable {X : Cx} {CX : CXT} {k : Nat} {f C : Addr} {fd : FuncData} {ps : List Str} {sp : Sp} {E : XK}
def rEqO (K : PySem.W.Frag) (C : Addr) (sp : Sp) (E : XK) : R2 := fun x y H Q => ∃ (a dx : Addr) (fs : List (Str × V)) (t : Value), x = .ref a ∧ H a = some (.ins C dx fs) ∧ TyE K C H y t ∧ PySem.W.notFirst K C t = true ∧ sp [.ref a, y] H Q E
theorem op_eqO (T : EqTxt X.K C f) (F : FnOk X.prog X.w X.K X.mg X.base CX k f fd ps sp) (hr : Room k X.A) (hb : L2.Binds X.K fd ps []) (hx : Passes CX X E) : OpR X (compareOp .Eq) (rEqO X.K C sp E) := by
  intro pins s σ H x y v u Q I rx ry hq
  obtain ⟨a, dx, fs, t, rfl, ha, ty, hn, h⟩ := hq
  cases rx
  obtain ⟨mA, J, _⟩ := ins_get I.hok ha
  obtain ⟨od, J, _⟩ := J.look
  obtain ⟨m, hF⟩ := I.fr
  show wpAny (model X.prog X.w) X.A (richCompare .Eq (.ref a) u) (EP X pins σ Q) X.xe s
  exact PySem.W.cmp_K (op := .Eq) (tb := t) hr.units0 hF I.ok.mod.kin J (tyE_looks I ry ty _) hn T.eq.at_ T.eq.fn (run_fnB (us := [.ref a, u]) (vs := [.ref a, y]) F hr hb .nil hx I (.cons rfl (.cons ry .nil)) h)
def rNeO (K : PySem.W.Frag) (C : Addr) (sp : Sp) (E : XK) : R2 := fun x y H Q => ∃ (a dx : Addr) (fs : List (Str × V)) (t : Value), x = .ref a ∧ H a = some (.ins C dx fs) ∧ TyE K C H y t ∧ PySem.W.notFirst K C t = true ∧ sp [.ref a, y] H (fun v H' => ∃ k, v = .bl k ∧ Q (.bl (!k)) H') E
theorem op_neO (T : EqTxt X.K C f) (F : FnOk X.prog X.w X.K X.mg X.base CX k f fd ps sp) (hr : Room (k + 1) X.A) (hb : L2.Binds X.K fd ps []) (hx : Passes CX X E) : OpR X (compareOp .NotEq) (rNeO X.K C sp E) := by
  intro pins s σ H x y v u Q I rx ry hq
  obtain ⟨a, dx, fs, t, rfl, ha, ty, hn, h⟩ := hq
  cases rx
  obtain ⟨mA, J, _⟩ := ins_get I.hok ha
  obtain ⟨od, J, _⟩ := J.look
  show wpAny (model X.prog X.w) X.A (richCompare .NotEq (.ref a) u) (EP X pins σ Q) X.xe s
  refine ne_own (hu_of hr) I.kIn J (tyE_looks I ry ty _) hn T.ob T.ne T.eq.at_ T.eq.fn ?_
  have hl := F.len _ _ _ _ h
  have r2 : Vals [V.ref a, y] [Value.ref a, u] := .cons rfl (.cons ry .nil)
  refine wpAny_call (codeAny_mono (F.run X.A.in1 X.stack s H ⟨[.ref a, u], []⟩ [.ref a, u] [.ref a, y] _ E hr.in1 I.env0.in1 (by
    have := hb s [.ref a, u] I.kIn (by simpa using hl)
    simpa using this) r2 h) fun r s' hq => ?_)
  cases r with
  | error e => exact hx pins σ H s e s' I hq
  | ok fl =>
    cases fl with
    | ret w =>
      obtain ⟨v, H', I', rv, k, rfl, q⟩ := I.after hq
      cases rv
      exact ⟨k, rfl, .bl (!k), H', I', rfl, q⟩
    | next => exact False.elim hq
    | brk => exact False.elim hq
    | cont => exact False.elim hq
end
end WW
namespace WW
open PySem PySem.Spec PyProof.Rows L2
/-! ### len(o) by an own __len__ -/
section
variable {X : Cx} {CX : CXT} {k : Nat} {f C : Addr} {fd : FuncData} {ps : List Str} {sp : Sp} {E : XK}
def rLenO (C : Addr) (sp : Sp) (E : XK) : List V → Hp → VK → Prop := fun xs H Q => ∃ (a dx : Addr) (fs : List (Str × V)), xs = [.ref a] ∧ H a = some (.ins C dx fs) ∧ sp [.ref a] H (fun v H' => ∃ n : Int, v = .int n ∧ 0 ≤ n ∧ n < 2 ^ 63 ∧ Q (.int n) H') E
theorem call_lenO (hm : Meth X.K C "__len__" f) (F : FnOk X.prog X.w X.K X.mg X.base CX k f fd ps sp) (hr : Room (k + 1) X.A) (hb : L2.Binds X.K fd ps []) (hx : Passes CX X E) : CallR X (.builtin "len") (rLenO C sp E) := by
  intro pins s σ H xs us Q I r h
  obtain ⟨a, dx, fs, rfl, ha, h⟩ := h
  obtain ⟨u, rfl, ru⟩ := vals1 r
  cases ru
  obtain ⟨mA, J, _⟩ := ins_get I.hok ha
  obtain ⟨od, J, _⟩ := J.look
  obtain ⟨m, hF⟩ := I.fr
  refine PySem.W.len_K hF I.ok.mod.kin J hm.at_ hm.fn ?_
  have hl := F.len _ _ _ _ h
  refine wpAny_call (codeAny_mono (F.run X.A.in1 X.stack s H ⟨[.ref a], []⟩ [.ref a] [.ref a] _ E hr.in1 I.env0.in1 (by
    have := hb s [.ref a] I.kIn (by simpa using hl)
    simpa using this) (.cons rfl .nil) h) fun r s' hq => ?_)
  cases r with
  | error e => exact hx pins σ H s e s' I hq
  | ok fl =>
    cases fl with
    | ret w =>
      obtain ⟨v, H', I', rv, n, rfl, h0, h1, q⟩ := I.after hq
      obtain ⟨t, rfl⟩ := rv
      exact ⟨⟨h0, h1⟩, .int n, H', I'.tok _, ⟨_, rfl⟩, q⟩
    | next => exact False.elim hq
    | brk => exact False.elim hq
    | cont => exact False.elim hq
end
/-! ### for x in o, o's own __iter__ giving a list's iterator -/
theorem walk_listF {K : PySem.W.Frag} {a : Addr} {xs : List V} : Walk (ItX.ItlF K a 0) xs.length (fun H => SqL K H a xs) (YAt xs) := by
  refine ⟨fun i H hi q => ?_, fun H q => ?_, fun i H x H' hi q y => ?_⟩
  · show (Itl K a).go (0 + i) H
    rw [Nat.zero_add]
    exact (walk_list (K := K) (a := a) (xs := xs)).goes i H hi q
  · show (Itl K a).stop (0 + xs.length) H
    rw [Nat.zero_add]
    exact (walk_list (K := K) (a := a) (xs := xs)).stops H q
  · have y : (Itl K a).yld (0 + i) H x H' := y
    rw [Nat.zero_add] at y
    exact (walk_list (K := K) (a := a) (xs := xs)).yields i H x H' hi q y
section
variable {X : Cx} {k : Nat} {g C : Addr} {fd : FuncData} {nm qual : Str} {st : Stmt} {N : List Str} {te : TE} {e tg : Expr} {Pi : Hp → Addr → Addr → Prop}
def iOwn (K : PySem.W.Frag) (C : Addr) (Pi : Hp → Addr → Addr → Prop) (te : TE) : TI := fun σ H R => te σ H fun x H1 => ∃ (a l dx : Addr) (fs : List (Str × V)), x = .ref a ∧ H1 a = some (.ins C dx fs) ∧ Pi H1 a l ∧ R (ItX.ItlF K l 0) H1
theorem pi_own (he : PE X e te) (hm : Meth X.K C "__iter__" g) (F : Fun X.K nm qual st g fd) (S : FnScope N ["self"] (defScope st)) (hb : L2.Binds X.K fd ["self"] []) (hr : Room (k + 1) X.A)
    (hbody : ∀ (cdv : Value) (A : Around) (outer : List Env) (s : Shared) (H : Hp) (a l : Addr) (Q : VK), Room k (A.deeper (envOfC qual (defScope st) s.heap.objs.size g cdv)) → Pi H a l → (∀ it, H it = none → s.heap.objs.size ≤ it → Q (.ref it) (upd H it (ItO l it 0))) →
      ∃ t, PSs (cxOf CX0 X.prog X.w X.K X.mg X.base N qual (defScope st) g cdv A outer s H E0).nox (defBody st) t ∧ t { nx := fun _ H' => Q .non H', rt := Q } (start N [.ref a]) H) :
    PI X tg e (iOwn X.K C Pi te) := by
  refine ⟨fun pins s σ H R I h => ?_⟩
  refine thn (he.run pins s σ H _ I h) fun u s1 ⟨x, H1, I1, rx, a, l, dx, fs, ex, ha, hp, hR⟩ => ?_
  subst ex
  cases rx
  obtain ⟨mA, J, _⟩ := ins_get I1.hok ha
  obtain ⟨od, J, _⟩ := J.look
  obtain ⟨m, hF⟩ := I1.fr
  refine PySem.W.owit_iter hF I1.ok.mod.kin J hm.at_ hm.fn ?_
  obtain ⟨oc, od', kV, doc, pm, an, cdv, ct, osl, rfl, lk, hcd⟩ := F.ex
  have hb1 := hb s1 [.ref a] I1.kIn rfl
  rw [List.append_nil] at hb1
  refine wpAny_call (codeAny_mono (LamX.run_ofS (CX := CX0) (P := X.prog) (w := X.w) (mg := X.mg) (base := X.base) (k := k) (N := N) (ps := ["self"]) (E := E0) (vs := [.ref a]) (us := [.ref a])
    (Q := fun v H' => ∃ it, v = .ref it ∧ H1 it = none ∧ s1.heap.objs.size ≤ it ∧ H' = upd H1 it (ItO l it 0)) lk hcd S hr I1.env0 hb1 (.cons rfl .nil) rfl fun hr' => ?_) fun r s' hq => ?_)
  · obtain ⟨t, h1, h2⟩ := hbody cdv X.A X.stack s1 H1 a l (fun v H' => ∃ it, v = .ref it ∧ H1 it = none ∧ s1.heap.objs.size ≤ it ∧ H' = upd H1 it (ItO l it 0)) hr' hp fun it hn hz => ⟨it, rfl, hn, hz, rfl⟩
    exact ⟨t, h1.nox, h2⟩
  · cases r with
    | error e => exact False.elim hq
    | ok fl =>
      cases fl with
      | ret w =>
        obtain ⟨v, H', I', rv, it, rfl, hn, hz, rfl⟩ := I1.after hq
        cases rv
        have hit : (upd H1 it (ItO l it 0)) it = some (ItO l it 0) := upd_same
        have eo := itO_get I' hit
        have st : s'.heap.IsListIter it l (0 + 0) := ⟨_, eo, rfl, rfl⟩
        have hT : s'.TypeIs (.ref it) "list_iterator" := ⟨_, eo, rfl⟩
        have dr : ItX.dropH (upd H1 it (ItO l it 0)) it = H1 := by
          funext b
          by_cases hb : b = it
          · rw [hb, ItX.dropH_same, hn]
          · rw [ItX.dropH_ne hb, upd_ne hb]
        refine wpAny_specialOf (name := Str.ofString "__next__") hT slot_listiter_next.lookup ?_
        have hi' := hit
        unfold ItO at hi'
        have I2 := ItX.inv_drop I' hi'
        have fp := ItX.inv_fp I' hit (Nat.le_trans I1.sz hz)
        rw [dr] at I2 fp
        refine ⟨it, [it], _, _, H1, rfl, I2, ItX.turn_listF l it 0, st, fun b hb => ?_, hR⟩
        have e : b = it := by simpa using hb
        rw [e]
        exact fp
      | next => exact False.elim hq
      | brk => exact False.elim hq
      | cont => exact False.elim hq
end
end WW
namespace WW
open PySem PySem.Spec PyProof.Rows L2
/-! ### dicts from texts to texts -/
abbrev SM := List (Str × Str)
def dS (m : SM) : List (Key × V) := m.map fun p => (Sum.inr p.1, V.str p.2)
theorem dS_length (m : SM) : (dS m).length = m.length := List.length_map _
theorem valV_dS (m : SM) (k : Str) : valV (dS m) (Sum.inr k : Key) = (m.lookup k).map V.str := by
  induction m with
  | nil => rfl
  | cons p r ih =>
    show ((((Sum.inr p.1 : Key), V.str p.2) :: dS r).find? _).map _ = _
    rw [List.find?_cons, List.lookup_cons]
    by_cases h : k = p.1
    · subst h
      simp
    · have h1 : decide ((Sum.inr p.1 : Key) = Sum.inr k) = false := decide_eq_false (fun z => h (Sum.inr.inj z).symm)
      have h2 : (k == p.1) = false := by simpa using h
      rw [h1, h2]
      exact ih
def dEq (m n : SM) : Bool := m.length == n.length && m.all fun p => decide (n.lookup p.1 = some p.2)
section
variable {X : Cx}
theorem hits_S {A : Around} {s : Shared} {n : SM} {vb : List (Key × Value)} (rb : KV (dS n) vb) : ∀ {m : SM} {va : List (Key × Value)}, KV (dS m) va → PySem.W.KeqHits A s vb va (m.all fun p => decide (n.lookup p.1 = some p.2))
  | [], [], .nil => .nil
  | p :: m, (k, v) :: va, .cons h t => by
    obtain ⟨h1, h2⟩ := h
    have h1 : (Sum.inr p.1 : Key) = k := h1
    subst h1
    obtain ⟨tk, rfl⟩ : ∃ tk, v = Value.str p.2 tk := h2
    have rr := rb.val (Sum.inr p.1 : Key)
    rw [valV_dS] at rr
    rw [List.all_cons]
    cases e : n.lookup p.1 with
    | none =>
      rw [e] at rr
      have hn : valueAt vb (Sum.inr p.1 : Key) = none := RelO.none_of rr
      rw [show decide (none = some p.2) = false from rfl, Bool.false_and]
      exact .miss hn
    | some z =>
      rw [e] at rr
      obtain ⟨y, hy, tk', rfl⟩ := RelO.some_of rr
      rw [show decide (some z = some p.2) = (p.2 == z) by rw [Bool.eq_iff_iff]; simp only [decide_eq_true_eq, Option.some.injEq, beq_iff_eq]; exact eq_comm]
      exact .hit hy (SeqAt.EqAt.str_str _ _ _ _) (hits_S rb t)
def rEqDS : R2 := fun x y H Q => ∃ (a b : Addr) (m n : SM), x = .ref a ∧ y = .ref b ∧ H a = some (.dK (dS m)) ∧ H b = some (.dK (dS n)) ∧ Q (.bl (dEq m n)) H
def rNeDS : R2 := fun x y H Q => ∃ (a b : Addr) (m n : SM), x = .ref a ∧ y = .ref b ∧ H a = some (.dK (dS m)) ∧ H b = some (.dK (dS n)) ∧ Q (.bl (!dEq m n)) H
theorem op_eqDS (hu : X.A.units < cLine) : OpR X (compareOp .Eq) rEqDS := by
  intro pins s σ H x y v u Q I rx ry h
  obtain ⟨a, b, m, n, rfl, rfl, ea, eb, q⟩ := h
  obtain rfl : v = Value.ref a := rx
  obtain rfl : u = Value.ref b := ry
  obtain ⟨_, ya, va, ra, da⟩ := (show ObjOk X.prog X.w H s.heap a (.dK (dS m)) from I.hok a _ ea)
  obtain ⟨_, yb, vb, rb, db⟩ := (show ObjOk X.prog X.w H s.heap b (.dK (dS n)) from I.hok b _ eb)
  have l1 : va.length = m.length := by rw [← ra.length, dS_length]
  have l2 : vb.length = n.length := by rw [← rb.length, dS_length]
  exact PySem.W.keq_eq (knd := mixKind X.prog X.w) ya yb da db hu (fun _ => hits_S rb ra) (fin_bl I q (by rw [l1, l2]; rfl))
theorem op_neDS (hu : X.A.units < cLine) : OpR X (compareOp .NotEq) rNeDS := by
  intro pins s σ H x y v u Q I rx ry h
  obtain ⟨a, b, m, n, rfl, rfl, ea, eb, q⟩ := h
  obtain rfl : v = Value.ref a := rx
  obtain rfl : u = Value.ref b := ry
  obtain ⟨_, ya, va, ra, da⟩ := (show ObjOk X.prog X.w H s.heap a (.dK (dS m)) from I.hok a _ ea)
  obtain ⟨_, yb, vb, rb, db⟩ := (show ObjOk X.prog X.w H s.heap b (.dK (dS n)) from I.hok b _ eb)
  have l1 : va.length = m.length := by rw [← ra.length, dS_length]
  have l2 : vb.length = n.length := by rw [← rb.length, dS_length]
  exact PySem.W.keq_ne (knd := mixKind X.prog X.w) ya yb da db hu (fun _ => hits_S rb ra) (fin_bl I q (by rw [l1, l2]; rfl))
/-- two lists of two such dicts each -/
def rEqDS2 : R2 := fun x y H Q => ∃ (a b a1 a2 b1 b2 : Addr) (m1 m2 n1 n2 : SM), x = .ref a ∧ y = .ref b ∧ H a = some (.lst [.ref a1, .ref a2]) ∧ H b = some (.lst [.ref b1, .ref b2]) ∧ a1 ≠ b1 ∧ a2 ≠ b2 ∧
  H a1 = some (.dK (dS m1)) ∧ H b1 = some (.dK (dS n1)) ∧ H a2 = some (.dK (dS m2)) ∧ H b2 = some (.dK (dS n2)) ∧ Q (.bl (dEq m1 n1 && dEq m2 n2)) H
theorem eqP_dS {A : Around} {pins : List (Addr × Obj)} {σ : L2.St} {H : Hp} {s : Shared} {a b : Addr} {m n : SM} (I : L2.Inv X pins σ H s) (hu : A.units < cLine) (hne : a ≠ b) (ea : H a = some (.dK (dS m))) (eb : H b = some (.dK (dS n))) : SeqAt.EqP X.prog X.w A s (.ref a) (.ref b) (dEq m n) := by
  obtain ⟨_, ya, va, ra, da⟩ := (show ObjOk X.prog X.w H s.heap a (.dK (dS m)) from I.hok a _ ea)
  obtain ⟨_, yb, vb, rb, db⟩ := (show ObjOk X.prog X.w H s.heap b (.dK (dS n)) from I.hok b _ eb)
  have l1 : va.length = m.length := by rw [← ra.length, dS_length]
  have l2 : vb.length = n.length := by rw [← rb.length, dS_length]
  refine SeqAt.eqP_refs hne fun E Q hq => ?_
  refine PySem.W.keq_eq (knd := mixKind X.prog X.w) (r := m.all fun p => decide (n.lookup p.1 = some p.2)) ya yb da db hu (fun _ => hits_S rb ra) ?_
  rw [l1, l2]
  exact hq
theorem op_eqDS2 (hu : X.A.units + 1 < cLine) : OpR X (compareOp .Eq) rEqDS2 := by
  intro pins s σ H x y v u Q I rx ry h
  obtain ⟨a, b, a1, a2, b1, b2, m1, m2, n1, n2, rfl, rfl, ea, eb, ne1, ne2, e1, f1, e2, f2, q⟩ := h
  obtain rfl : v = Value.ref a := rx
  obtain rfl : u = Value.ref b := ry
  obtain ⟨_, us, n, ru, hl⟩ := (show ObjOk X.prog X.w H s.heap a (.lst [.ref a1, .ref a2]) from I.hok a _ ea)
  obtain ⟨_, ws, n', rw', hl'⟩ := (show ObjOk X.prog X.w H s.heap b (.lst [.ref b1, .ref b2]) from I.hok b _ eb)
  obtain ⟨u1, u2, rfl, r1, r2⟩ := vals2 ru
  obtain ⟨w1, w2, rfl, r3, r4⟩ := vals2 rw'
  cases r1; cases r2; cases r3; cases r4
  show wpAny (model X.prog X.w) X.A (richCompare .Eq (.ref a) (.ref b)) (EP X pins σ Q) X.xe s
  refine SeqAt.rcP_lists (e := fun j => if j = 0 then dEq m1 n1 else dEq m2 n2) (items := #[.ref a1, .ref a2]) (items2 := #[.ref b1, .ref b2]) ⟨_, hl, rfl, _, rfl⟩ ⟨_, hl', rfl, _, rfl⟩ rfl (by omega) (fun j h1 h2 => ?_) X.xe _ ?_
  · have hj : j = 0 ∨ j = 1 := by
      have : j < 2 := h1
      omega
    rcases hj with rfl | rfl
    · exact eqP_dS (A := X.A.in1) I hu ne1 e1 f1
    · exact eqP_dS (A := X.A.in1) I hu ne2 e2 f2
  · refine fin_bl I q ?_
    show _ = ((List.range 2).all _)
    simp [List.range_succ]
end
end WW
namespace WW
open PySem PySem.Spec PyProof.Rows L2
section
variable {X : Cx}
/-- name = {k: v for ..} on one line, the name a local -/
theorem ps_setDc {i : Nat} {y : Str} {py : Pos} {kx vx tg iter : Expr} {ifs : List Expr} {scope : Scope} {own : List (Str × Nat)} {pos spos : Pos} {wi : TI} {g : TG} {tt : TT} {tk tv : TE} (hc : X.calm = true) (hN : X.N.Nodup) (hy : X.N[i]? = some y) (hyl : X.env.scope.names.lookup y = some .local)
    (hsw : swapsWith (.DictComp kx vx [⟨tg, iter, ifs, 0⟩] scope pos) (some (.Name y py)) spos.line X.env = pure true) (hi : PI X tg iter wi) (ok : BlkOk X.N X.env.scope scope own)
    (hg : ∀ (s : Shared) (H : Hp) (C : Addr) (cl : List (Str × Addr)) (fp : List Addr), PG (X.blk s H scope (compEnvC scope cl C X.env) fp) tg g) (ht : ∀ (s : Shared) (H : Hp) (C : Addr) (cl : List (Str × Addr)) (fp : List Addr), PTs (X.blk s H scope (compEnvC scope cl C X.env) fp) ifs tt)
    (hk : ∀ (s : Shared) (H : Hp) (C : Addr) (cl : List (Str × Addr)) (fp : List Addr), PE (X.blk s H scope (compEnvC scope cl C X.env) fp) kx tk)
    (he : ∀ (s : Shared) (H : Hp) (C : Addr) (cl : List (Str × Addr)) (fp : List Addr), PE (X.blk s H scope (compEnvC scope cl C X.env) fp) vx tv) (hs : ∀ x, foldedSetIterable iter X.env x = pure x := by intro _; rfl) :
    PS X (.Assign [.Name y py] (.DictComp kx vx [⟨tg, iter, ifs, 0⟩] scope pos) spos) (tAsg (tDc wi g tt tk tv (own.map (·.2))) (gName i)) := by
  refine ⟨fun pins s σ H D I h => ?_⟩
  rw [exec_Assign_Name_used _ _ _ _ hsw]
  refine wpAny_bind (wpAny_standAt (wpAny_bind ?_))
  show wpAny _ X.A (do let _ ← comprehension (.DictComp kx vx [⟨tg, iter, ifs, 0⟩] scope pos) scope X.env (firstIterPos [⟨tg, iter, ifs, 0⟩] pos) newDict false (eval iter X.env) (some (assign (.Name y py) X.env))) _ _ s
  have h : tDc wi g tt tk tv (own.map (·.2)) σ H (fun x H1 => gName i x σ H1 D.nx) := h
  refine wpAny_bind (thn (dc_core (Qf := fun _ s' => SP X pins D .next s') hc hN I hi ok hg ht hk he hs h fun L C s' m H' I' q hn f => ?_) fun _ s' hq => wpAny_pure (wpAny_pure hq))
  show wpAny _ _ (assign (.Name y py) X.env (.ref L)) _ _ _
  refine wpAny_assign_Name (store_ok2 (v := V.ref L) I' hN hy (.inl hyl) rfl (fun s2 I2 ⟨a, sb, ha⟩ => ?_) (.inr hyl))
  obtain ⟨f0, f1, f2, f3, f4, f5⟩ := f
  have haC : C ≠ a := by
    rcases ha with z | z
    · rw [z]; exact f1
    · exact fun e => f4 y a z e.symm
  refine ⟨m, hn.sameBut sb haC, fun h3 sb3 => ?_⟩
  exact ⟨_, H', I2.turned (t' := s2.toks) (fun b o hb e => (sb3.2 b hb).trans e) f0 f1 f3 f4 f5, q⟩
theorem swD_true {kx vx : Expr} {gs : List Comprehension} {scope : Scope} {pos py : Pos} {y : Str} {l : Nat} {env : Env} (hk : env.scope.kind = .function) (hy : env.scope.names.lookup y = some .local) (hl : (py.line == pos.line) = true)
    (ha : (scope.names.any fun (n, k) => n == y && (k == .local || k == .cell)) = false) : swapsWith (.DictComp kx vx gs scope pos) (some (.Name y py)) l env = pure true := by
  have ky : env.kindOf y = some .local := hy
  have hb : env.blockKind = .function := by unfold Env.blockKind; rw [hk]; rfl
  unfold swapsWith
  simp only [hb, ky, ha, Expr.pos, hl]
  rfl
end
end WW
namespace WW
open PySem PySem.Spec PyProof.Rows L2
theorem vals_S : ∀ {xs : List Str} {us : List Value}, Vals (xs.map V.str) us → us.length = xs.length ∧ ∀ (i : Nat) (x : Str), xs[i]? = some x → ∃ t, us[i]? = some (.str x t)
  | [], [], .nil => ⟨rfl, fun i x h => by simp at h⟩
  | x :: xs, u :: us, .cons h t => by
    obtain ⟨l, k⟩ := vals_S t
    obtain ⟨tk, rfl⟩ := h
    refine ⟨by simp [l], fun i y hy => ?_⟩
    cases i with
    | zero => cases hy; exact ⟨tk, rfl⟩
    | succ i => exact k i y hy
section
variable {X : Cx}
def rEqSL (K : PySem.W.Frag) (b : Bool) : R2 := fun x y H Q => ∃ (l r : Addr) (xs ys : List Str), x = .ref l ∧ y = .ref r ∧ SqL K H l (xs.map V.str) ∧ SqL K H r (ys.map V.str) ∧ Q (.bl (b == decide (xs = ys))) H
theorem range_all_eq {xs ys : List Str} (hl : xs.length = ys.length) : ((List.range xs.length).all fun j => xs[j]? == ys[j]?) = decide (xs = ys) := by
  rw [Bool.eq_iff_iff, decide_eq_true_eq, List.all_eq_true]
  constructor
  · intro h
    refine List.ext_getElem? fun i => ?_
    by_cases hi : i < xs.length
    · exact beq_iff_eq.mp (h i (List.mem_range.mpr hi))
    · rw [List.getElem?_eq_none (by omega), List.getElem?_eq_none (by omega)]
  · rintro rfl i _
    simp
theorem op_eqSL (hu : X.A.units < cLine) : OpR X (compareOp .Eq) (rEqSL X.K true) := by
  intro pins s σ H x y v u Q I rx ry h
  obtain ⟨l, r, xs, ys, rfl, rfl, hl, hr, q⟩ := h
  obtain rfl : v = Value.ref l := rx
  obtain rfl : u = Value.ref r := ry
  obtain ⟨us, rv, p, hz⟩ := I.list hl
  obtain ⟨ws, rw', p', hz'⟩ := I.list hr
  obtain ⟨l1, k1⟩ := vals_S rv
  obtain ⟨l2, k2⟩ := vals_S rw'
  by_cases e : xs.length = ys.length
  · refine SeqAt.eq_listAt (e := fun j => xs[j]? == ys[j]?) p.isList p'.isList (by simp [l1, l2, e]) hu (fun j h1 h2 => ?_) (fin_bl I q ?_)
    · have g1 : j < xs.length := by simpa [l1] using h1
      have g2 : j < ys.length := by simpa [l2] using h2
      obtain ⟨t, ht⟩ := k1 j xs[j] (by simp [g1])
      obtain ⟨t', ht'⟩ := k2 j ys[j] (by simp [g2])
      have a1 : us.toArray[j] = .str xs[j] t := by
        have := ht
        rw [List.getElem?_eq_getElem (by omega)] at this
        simpa using Option.some.inj this
      have a2 : ws.toArray[j] = .str ys[j] t' := by
        have := ht'
        rw [List.getElem?_eq_getElem (by omega)] at this
        simpa using Option.some.inj this
      rw [a1, a2, List.getElem?_eq_getElem g1, List.getElem?_eq_getElem g2]
      exact SeqAt.EqAt.str_str _ _ _ _
    · rw [show us.toArray.size = xs.length by simp [l1], range_all_eq e]
      simp
  · refine SeqAt.eq_list_lengthsAt p.isList p'.isList (by simp [l1, l2, e]) hu (fin_bl I q ?_)
    have : xs ≠ ys := fun z => e (by rw [z])
    simp [this]
end
end WW
namespace WW
open PySem PySem.Spec PyProof.Rows L2
/-! ### heaps -/
theorem Same.new {H H1 : Hp} {p : Addr} {o : HO} (s : Same H H1) (h : H1 p = none) : Same H (upd H1 p o) := fun b u e => by
  have e1 := s b u e
  rw [upd_ne (ne_of_none e1 h)]
  exact e1
theorem Same.put {H : Hp} {p : Addr} {o : HO} (h : H p = none) : Same H (upd H p o) := Same.new (Same.refl H) h
theorem Same.none {H H1 : Hp} {p : Addr} (s : Same H H1) (h : H1 p = none) : H p = none := s.free h
theorem getS {xs : List Str} {i : Nat} {x : V} (h : (xs.map V.str)[i]? = some x) : ∃ z, xs[i]? = some z ∧ x = V.str z := by
  rw [List.getElem?_map] at h
  cases e : xs[i]? with
  | none => rw [e] at h; cases h
  | some z => rw [e] at h; exact ⟨z, rfl, (Option.some.inj h).symm⟩
theorem lock_back {H : Hp} {d D : Addr} {u o x : HO} (hd : H d = some u) (hD : D ≠ d) : upd (upd (upd H d o) D x) d u = upd H D x := by
  funext b
  by_cases h1 : b = d
  · subst h1
    rw [upd_same, upd_ne (Ne.symm hD), hd]
  · rw [upd_ne h1]
    by_cases h2 : b = D
    · subst h2
      rw [upd_same, upd_same]
    · rw [upd_ne h2, upd_ne h2, upd_ne h1]
def top (i : Nat) : Stmt := PySem.Challenge.pw_wishedwires_k37_matchings_to_a_power.main.body.getD i (.Pass ⟨0, 0, 0, 0⟩)
abbrev sInOrder : Stmt := top 6
abbrev sUnlike : Stmt := top 7
abbrev sOne : Stmt := top 9
/-- what the text leaves alone of the built-in names -/
structure Blt (mg : Str → Option Value) : Prop where
  sorted : mg "sorted" = none
  str : mg "str" = none
  len : mg "len" = none
  isinstance : mg "isinstance" = none
  all : mg "all" = none
  list : mg "list" = none
  dict : mg "dict" = none
  range : mg "range" = none
  enumerate : mg "enumerate" = none
  iter : mg "iter" = none
  int : mg "int" = none
  abs : mg "abs" = none
def spInOrderL (K : PySem.W.Frag) : Sp := fun vs H Q _ => ∃ (a : Addr) (xs : List Str), vs = [.ref a] ∧ SqL K H a (xs.map V.str) ∧ xs.length < 64 ∧
  ∀ (p : Addr) (H' : Hp), Same H H' → H p = none → H' p = some (.lst ((sortS xs).map V.str)) → Q (.ref p) H'
def spInOrderD : Sp := fun vs H Q _ => ∃ (d : Addr) (m : SM), vs = [.ref d] ∧ H d = some (.dK (dS m)) ∧ m.length < 64 ∧
  ∀ (p : Addr) (H' : Hp), Same H H' → H p = none → H' p = some (.lst ((sortS (m.map (·.1))).map V.str)) → Q (.ref p) H'
section
variable {P : Program} {w : World} {K : PySem.W.Frag} {mg : Str → Option Value} {base : Heap}
theorem scIO : FnScope ["texts", "text"] ["texts"] (defScope sInOrder) := ⟨rfl, rfl, rfl, by decide +kernel, rfl, by decide +kernel, by decide +kernel⟩
theorem ok_inOrderL {f : Addr} {fd : FuncData} (F : Fun K "in_order" "in_order" sInOrder f fd) (T : Blt mg) : FnOk P w K mg base CX0 1 f fd ["texts"] (spInOrderL K) := by
  refine F.ok scIO (fun vs H Q E h => ?_) (fun cdv A outer s H vs Q E hr h => ?_)
  · obtain ⟨a, xs, rfl, _⟩ := h
    rfl
  · obtain ⟨a, xs, rfl, hS, hl, k⟩ := h
    refine ⟨_, pss_one (ps_ret (pe_callB cr_sortedS (by rfl) T.sorted (by decide +kernel) (pa_cons (pe_lc (own := [("text", 1)]) (g := gName 1) (tt := tYes) rfl scIO.nd (pi_list (pv 0)) (blkOk_by (own := [("text", 1)]) (N := ["texts", "text"]) (sc := defScope sInOrder) (by decide +kernel))
      (fun _ _ _ _ _ => pg_name (i := 1) scIO.nd rfl (Or.inl rfl)) (fun _ _ _ _ _ => pts_nil) (fun _ _ _ _ _ => pe_callTy SkE.call_str_str (by rfl) T.str (by decide +kernel) (pa_cons (pv 1) pa_nil))) pa_nil))), ?_⟩
    refine ⟨_, rfl, a, rfl, ⟨_, hS⟩, fun D hD => ?_⟩
    refine lcM (walk_list (K := K) (a := a) (xs := xs.map V.str)) (xs.map V.str) rfl (by rw [List.length_map]; omega) (fun acc => (Same.put hD).seq hS) (fun i x y acc H' hy hY => ?_) ?_
    · obtain ⟨rfl, hx⟩ := hY
      rw [hx] at hy
      cases hy
      obtain ⟨z, hz, rfl⟩ := getS hx
      refine ⟨rfl, fun R hR => ⟨rfl, _, rfl, _, rfl, hR⟩⟩
    · refine ⟨D, xs, rfl, SqL.of upd_same, hl, fun ys p hp hs hpn => ?_⟩
      rw [sortS_of hp hs]
      exact k p _ (Same.new (Same.put hD) hpn) (Same.none (Same.put hD) hpn) upd_same
theorem ok_inOrderD {f : Addr} {fd : FuncData} (F : Fun K "in_order" "in_order" sInOrder f fd) (T : Blt mg) : FnOk P w K mg base CX0 1 f fd ["texts"] spInOrderD := by
  refine F.ok scIO (fun vs H Q E h => ?_) (fun cdv A outer s H vs Q E hr h => ?_)
  · obtain ⟨a, xs, rfl, _⟩ := h
    rfl
  · obtain ⟨d, m, rfl, hd, hl, k⟩ := h
    refine ⟨_, pss_one (ps_ret (pe_callB cr_sortedS (by rfl) T.sorted (by decide +kernel) (pa_cons (pe_lock (pe_lc (own := [("text", 1)]) (g := gName 1) (tt := tYes) rfl scIO.nd (pi_keys (pv 0)) (blkOk_by (own := [("text", 1)]) (N := ["texts", "text"]) (sc := defScope sInOrder) (by decide +kernel))
      (fun _ _ _ _ _ => pg_name (i := 1) scIO.nd rfl (Or.inl rfl)) (fun _ _ _ _ _ => pts_nil) (fun _ _ _ _ _ => pe_callTy SkE.call_str_str (by rfl) T.str (by decide +kernel) (pa_cons (pv 1) pa_nil)))) pa_nil))), ?_⟩
    refine ⟨d, _, hd, trivial, fun od => ?_⟩
    refine ⟨_, rfl, d, od, rfl, .inl ⟨dS m, upd_same, fun D hD => ?_⟩⟩
    have hDd : D ≠ d := fun z => by rw [z, upd_same] at hD; cases hD
    have hD' : H D = none := by rw [upd_ne hDd] at hD; exact hD
    refine lcM (walk_keys (d := d) (o := od) (kvs := dS m)) ((m.map (·.1)).map V.str) (by simp [dS_length]) (by rw [dS_length]; omega) (fun acc => by rw [upd_ne (Ne.symm hDd), upd_same]) (fun i x y acc H' hy hY => ?_) ?_
    · obtain ⟨rfl, kk, v, e, rfl⟩ := hY
      obtain ⟨z, hz, rfl⟩ := getS hy
      unfold dS at e
      rw [List.getElem?_map] at e hz
      cases q : m[i]? with
      | none => rw [q] at e; cases e
      | some pr =>
        rw [q] at e hz
        cases e
        cases hz
        exact ⟨rfl, fun R hR => ⟨rfl, _, rfl, _, rfl, hR⟩⟩
    · refine ⟨by rw [upd_ne (Ne.symm hDd), upd_same], ?_⟩
      rw [lock_back hd hDd]
      refine ⟨D, m.map (·.1), rfl, SqL.of upd_same, by simpa using hl, fun ys p hp hs hpn => ?_⟩
      rw [sortS_of hp hs]
      exact k p _ (Same.new (Same.put hD') hpn) (Same.none (Same.put hD') hpn) upd_same
end
end WW
namespace WW
open PySem PySem.Spec PyProof.Rows L2
/-- a dict comprehension whose turns leave the heap as it is -/
theorem dcA {J : It} {n : Nat} {G : Hp → Prop} {Y : Nat → Hp → V → Hp → Prop} (w : Walk J n G Y) {g : TG} {tk tv : TE} {vs : List Nat} {σ : L2.St} {H1 : Hp} {D : Addr} {Qd : Hp → Prop} (A : Nat → List (Key × V)) (h0 : A 0 = []) (hz : ∀ i, i < n → (A i).length < sizeLine)
    (hG : ∀ acc, G (upd H1 D (.dK acc)))
    (hs : ∀ i x H', i < n → Y i (upd H1 D (.dK (A i))) x H' → H' = upd H1 D (.dK (A i)) ∧ ∀ (R : V → V → Hp → Prop), (∀ k z, A (i + 1) = putK (A i) k z → R (kV k) z H') →
      g x (wipe σ vs) H' fun σ2 H2 => wipe σ2 vs = wipe σ vs ∧ tk σ2 H2 fun y H4 => tv σ2 H4 fun z H5 => R y z H5)
    (hd : Qd (upd H1 D (.dK (A n)))) :
    ∃ W : Nat → Nat → Hp → Prop, (∃ m, W 0 m (upd H1 D (.dK []))) ∧ ∀ i m H, W i m H →
      (J.stop i H ∧ Qd H) ∨ (J.go i H ∧ ∃ Nx : Hp → Prop, (∀ H', Nx H' → ∃ m', m' < m ∧ W (i + 1) m' H') ∧ ∀ x H', J.yld i H x H' → g x (wipe σ vs) H' fun σ2 H2 => wipe σ2 vs = wipe σ vs ∧ tYes σ2 H2 fun b H3 =>
        if b = true then tk σ2 H3 fun y H4 => tv σ2 H4 fun z H5 => ∃ kvs k, y = kV k ∧ H5 D = some (.dK kvs) ∧ kvs.length < sizeLine ∧ Nx (upd H5 D (.dK (putK kvs k z))) else Nx H3) := by
  refine ⟨fun i m H => m = n - i ∧ i ≤ n ∧ H = upd H1 D (.dK (A i)), ⟨n, by simp, Nat.zero_le _, by rw [h0]⟩, ?_⟩
  rintro i m H ⟨rfl, hi, rfl⟩
  have q := hG (A i)
  by_cases hlt : i < n
  · refine .inr ⟨w.goes i _ hlt q, fun H' => H' = upd H1 D (.dK (A (i + 1))), fun H' p' => ⟨n - (i + 1), by omega, rfl, hlt, p'⟩, fun x H' y => ?_⟩
    obtain ⟨e, k⟩ := hs i x H' hlt (w.yields i _ x H' hlt q y)
    subst e
    unfold tYes
    simp only [if_true]
    exact k _ (fun kk z hy => ⟨A i, kk, rfl, upd_same, hz i hlt, by rw [upd_upd, hy]⟩)
  · have e : i = n := by omega
    subst e
    exact .inl ⟨w.stops _ q, hd⟩
theorem take_succ' {α : Type} {l : List α} {i : Nat} {x : α} (h : l[i]? = some x) : l.take (i + 1) = l.take i ++ [x] := by
  obtain ⟨hi, rfl⟩ := List.getElem?_eq_some_iff.mp h
  exact List.take_succ_eq_append_getElem hi
theorem nodup_take_not_mem {α : Type} {l : List α} (nd : l.Nodup) {i : Nat} {x : α} (h : l[i]? = some x) : x ∉ l.take i := by
  obtain ⟨hi, rfl⟩ := List.getElem?_eq_some_iff.mp h
  intro hm
  obtain ⟨j, hj, e⟩ := List.getElem_of_mem hm
  rw [List.getElem_take] at e
  rw [List.length_take] at hj
  exact List.pairwise_iff_getElem.mp nd j i (by omega) hi (by omega) e
theorem nodup_map {α β : Type} {f : α → β} (hf : ∀ a b, f a = f b → a = b) {l : List α} (nd : l.Nodup) : (l.map f).Nodup := List.Pairwise.map f (fun a b h e => h (hf a b e)) nd
theorem putK_map {α : Type} (f : α → Key) (gv : α → V) {l : List α} {i : Nat} {x : α} (nd : (l.map f).Nodup) (h : l[i]? = some x) : (l.take (i + 1)).map (fun a => (f a, gv a)) = putK ((l.take i).map fun a => (f a, gv a)) (f x) (gv x) := by
  have hn : valV ((l.take i).map fun a => (f a, gv a)) (f x) = none := by
    unfold valV
    rw [Option.map_eq_none_iff, List.find?_eq_none]
    intro p hp
    obtain ⟨a, ha, rfl⟩ := List.mem_map.mp hp
    simp only [decide_eq_true_eq]
    intro e
    have hx : (l.map f)[i]? = some (f x) := by rw [List.getElem?_map, h]; rfl
    refine nodup_take_not_mem nd hx ?_
    rw [← List.map_take]
    exact List.mem_map.mpr ⟨a, ha, e⟩
  rw [putK_new _ hn, take_succ' h, List.map_append]
  rfl
/-! ### are_unlike, is_one_to_one -/
def spUnlike (K : PySem.W.Frag) : Sp := fun vs H Q _ => ∃ (a : Addr) (xs : List Str), vs = [.ref a] ∧ SqL K H a (xs.map V.str) ∧ xs.length < 64 ∧ xs.Nodup ∧ ∀ H', Same H H' → Q (.bl true) H'
def spOne : Sp := fun vs H Q _ => ∃ (d : Addr) (m : SM), vs = [.ref d] ∧ H d = some (.dK (dS m)) ∧ m.length < 64 ∧ (m.map (·.2)).Nodup ∧ ∀ H', Same H H' → Q (.bl true) H'
section
variable {P : Program} {w : World} {K : PySem.W.Frag} {mg : Str → Option Value} {base : Heap}
theorem scU : FnScope ["some", "name"] ["some"] (defScope sUnlike) := ⟨rfl, rfl, rfl, by decide +kernel, rfl, by decide +kernel, by decide +kernel⟩
theorem ok_unlike {f : Addr} {fd : FuncData} (F : Fun K "are_unlike" "are_unlike" sUnlike f fd) (T : Blt mg) : FnOk P w K mg base CX0 1 f fd ["some"] (spUnlike K) := by
  refine F.ok scU (fun vs H Q E h => ?_) (fun cdv A outer s H vs Q E hr h => ?_)
  · obtain ⟨a, xs, rfl, _⟩ := h
    rfl
  · obtain ⟨a, xs, rfl, hS, hl, nd, k⟩ := h
    refine ⟨_, pss_one (ps_ret (pe_cmpR op_eq (pe_callB call_lenD (by rfl) T.len PySem.boot_len (pa_cons (pe_dc (own := [("name", 1)]) (g := gName 1) (tt := tYes) rfl scU.nd (pi_list (pv 0)) (blkOk_by (own := [("name", 1)]) (N := ["some", "name"]) (sc := defScope sUnlike) (by decide +kernel))
      (fun _ _ _ _ _ => pg_name (i := 1) scU.nd rfl (Or.inl rfl)) (fun _ _ _ _ _ => pts_nil) (fun _ _ _ _ _ => pv 1) (fun _ _ _ _ _ => pe_bl)) pa_nil)) (pe_callB call_len_seq (by rfl) T.len PySem.boot_len (pa_cons (pv 0) pa_nil)) (nomark _))), ?_⟩
    refine ⟨_, rfl, a, rfl, ⟨_, hS⟩, fun D hD => ?_⟩
    refine dcA (walk_list (K := K) (a := a) (xs := xs.map V.str)) (fun i => (xs.take i).map fun x => (Sum.inr x, V.bl true)) (by simp) (fun i hi => small1000 (by rw [List.length_map, List.length_take]; omega)) (fun acc => (Same.put hD).seq hS) (fun i x H' hi hY => ?_) ?_
    · obtain ⟨rfl, hx⟩ := hY
      obtain ⟨z, hz, rfl⟩ := getS hx
      refine ⟨rfl, fun R hR => ⟨rfl, _, rfl, ?_⟩⟩
      exact hR (Sum.inr z) (.bl true) (putK_map (fun x => (Sum.inr x : Key)) (fun _ => V.bl true) (nodup_map (fun _ _ e => Sum.inr.inj e) nd) hz)
    · refine ⟨D, _, rfl, upd_same, _, rfl, a, _, rfl, .inl ((Same.put hD).seq hS), rfl, ?_⟩
      have e : (List.map (fun x => ((Sum.inr x : Key), V.bl true)) (xs.take (xs.map V.str).length)).length = (xs.map V.str).length := by simp
      rw [e, decide_eq_true rfl]
      exact k _ (Same.put hD)
theorem scO : FnScope ["thing", "key", "images", "image"] ["thing"] (defScope sOne) := ⟨rfl, rfl, rfl, by decide +kernel, rfl, by decide +kernel, by decide +kernel⟩
theorem ok_one {f fU : Addr} {fd fdU : FuncData} (F : Fun K "is_one_to_one" "is_one_to_one" sOne f fd) (FU : Fun K "are_unlike" "are_unlike" sUnlike fU fdU) (bU : L2.Binds K fdU ["some"] []) (mU : mg "are_unlike" = some (.ref fU)) (T : Blt mg) : FnOk P w K mg base CX0 2 f fd ["thing"] spOne := by
  have GU : FnOk P w K mg base CX0 1 fU fdU ["some"] (spUnlike K) := ok_unlike FU T
  refine F.ok scO (fun vs H Q E h => ?_) (fun cdv A outer s H vs Q E hr h => ?_)
  · obtain ⟨a, xs, rfl, _⟩ := h
    rfl
  · obtain ⟨d, m, rfl, hd, hl, nd, k⟩ := h
    refine ⟨_, pss_cons (ps_if (PW.pt (pw_or (pt_not (pt_val (pe_callB call_isi (by rfl) T.isinstance (by decide +kernel) (pa_cons (pv 0) (pa_cons (pe_bltn (v := .ty "dict") (by rfl) T.dict (by decide +kernel) rfl) pa_nil)))))
        (pw_or1 (pt_not (pt_val (pe_callB (cr_all rfl) (by rfl) T.all (by decide +kernel) (pa_cons (pe_lock (pe_lc (own := [("key", 1)]) (g := gName 1) (tt := tYes) (te := tCB (rIsi K) (tCons (tVar 1) (tCons (tC (.ty "str")) tNil))) rfl scO.nd (pi_keys (pv 0)) (blkOk_by (own := [("key", 1)]) (N := ["thing", "key", "images", "image"]) (sc := defScope sOne) (by decide +kernel))
          (fun _ _ _ _ _ => pg_name (i := 1) scO.nd rfl (Or.inl rfl)) (fun _ _ _ _ _ => pts_nil) (fun _ _ _ _ _ => pe_callB call_isi (by rfl) T.isinstance (by decide +kernel) (pa_cons (pv 1) (pa_cons (pe_bltn (v := .ty "str") (by rfl) T.str (by decide +kernel) rfl) pa_nil))))) pa_nil)))))))
        (pss_one (ps_ret pe_bl)) pss_nil)
      (pss_cons (ps_set (i := 2) scO.nd rfl (Or.inl rfl) (pe_listVals rfl (pv 0) (by rfl) T.list (by decide +kernel)))
      (pss_one (ps_ret (pe_and (pe_callB (cr_all rfl) (by rfl) T.all (by decide +kernel) (pa_cons (pe_lc (own := [("image", 3)]) (g := gName 3) (tt := tYes) (te := tCB (rIsi K) (tCons (tVar 3) (tCons (tC (.ty "str")) tNil))) rfl scO.nd (pi_list (pv 2)) (blkOk_by (own := [("image", 3)]) (N := ["thing", "key", "images", "image"]) (sc := defScope sOne) (by decide +kernel))
          (fun _ _ _ _ _ => pg_name (i := 3) scO.nd rfl (Or.inl rfl)) (fun _ _ _ _ _ => pts_nil) (fun _ _ _ _ _ => pe_callB call_isi (by rfl) T.isinstance (by decide +kernel) (pa_cons (pv 3) (pa_cons (pe_bltn (v := .ty "str") (by rfl) T.str (by decide +kernel) rfl) pa_nil)))) pa_nil))
        (pe_one (pe_call GU hr (by rfl) mU FU.kp bU .nil pass0 (pa_cons (pv 2) pa_nil))))))), ?_⟩
    refine ⟨_, rfl, _, _, _, _, true, rfl, .ty _, .base (.dK hd), kit_ty (by decide +kernel), _, rfl, iteF ?_⟩
    refine ⟨d, _, hd, trivial, fun od => ?_⟩
    refine ⟨_, rfl, d, od, rfl, .inl ⟨dS m, upd_same, fun D hD => ?_⟩⟩
    have hDd : D ≠ d := fun z => by rw [z, upd_same] at hD; cases hD
    have hD' : H D = none := by rw [upd_ne hDd] at hD; exact hD
    refine lcM (walk_keys (d := d) (o := od) (kvs := dS m)) ((m.map fun _ => true).map V.bl) (by simp [dS_length]) (by rw [dS_length]; omega) (fun acc => by rw [upd_ne (Ne.symm hDd), upd_same]) (fun i x y acc H' hy hY => ?_) ?_
    · obtain ⟨rfl, kk, v, e, rfl⟩ := hY
      unfold dS at e
      rw [List.getElem?_map] at e
      rw [List.getElem?_map, List.getElem?_map] at hy
      cases q : m[i]? with
      | none => rw [q] at e; cases e
      | some pr =>
        rw [q] at e hy
        cases e
        cases hy
        exact ⟨rfl, fun R hR => ⟨rfl, _, rfl, _, _, _, _, true, rfl, .ty _, .base (.str _), kit_ty (by decide +kernel), hR⟩⟩
    · refine ⟨by rw [upd_ne (Ne.symm hDd), upd_same], ?_⟩
      rw [lock_back hd hDd]
      have al : (m.map fun _ => true).all id = true := by simp
      refine ⟨D, _, rfl, SqL.of upd_same, _, rfl, ?_⟩
      rw [al]
      refine iteF ?_
      refine ⟨_, rfl, d, dS m, rfl, by rw [upd_ne (Ne.symm hDd)]; exact hd, fun p hp => ?_⟩
      have s1 : Same H (upd (upd H D (.lst ((m.map fun _ => true).map V.bl))) p (.lst ((dS m).map (·.2)))) := Same.new (Same.put hD') hp
      have ev : (dS m).map (·.2) = (m.map (·.2)).map V.str := by unfold dS; rw [List.map_map, List.map_map]; rfl
      rw [ev] at s1 ⊢
      refine ⟨_, rfl, p, rfl, ⟨_, SqL.of upd_same⟩, fun D2 hD2 => ?_⟩
      have hpD : p ≠ D2 := fun z => by rw [← z, upd_same] at hD2; cases hD2
      refine lcM (walk_list (K := K) (a := p) (xs := (m.map (·.2)).map V.str)) ((m.map fun _ => true).map V.bl) (by simp) (by simp; omega) (fun acc => SqL.of (by rw [upd_ne hpD, upd_same])) (fun i x y acc H' hy hY => ?_) ?_
      · obtain ⟨rfl, hx⟩ := hY
        obtain ⟨z, hz, rfl⟩ := getS hx
        rw [List.getElem?_map] at hz
        rw [List.getElem?_map, List.getElem?_map] at hy
        cases q : m[i]? with
        | none => rw [q] at hz; cases hz
        | some pr =>
          rw [q] at hy
          cases hy
          exact ⟨rfl, fun R hR => ⟨rfl, _, rfl, _, _, _, _, true, rfl, .ty _, .base (.str _), kit_ty (by decide +kernel), hR⟩⟩
      · refine ⟨D2, _, rfl, SqL.of upd_same, _, rfl, ?_⟩
        rw [al]
        refine iteT ?_
        exact ⟨_, rfl, p, m.map (·.2), rfl, SqL.of (by rw [upd_ne hpD, upd_same]), by simpa using hl, nd, fun H' sm => k H' (L2.Same.trans (Same.new s1 hD2) sm)⟩
end
end WW
namespace WW
open PySem PySem.Spec PyProof.Rows L2
/-- the tuples at ts hold the pairs ps -/
def Prs (H : Hp) (ts : List Addr) (ps : List (V × V)) : Prop := Paired (fun (t : Addr) (p : V × V) => H t = some (.tup [p.1, p.2])) ts ps
theorem Prs.same {H H' : Hp} (s : Same H H') {ts : List Addr} {ps : List (V × V)} (h : Prs H ts ps) : Prs H' ts ps := by
  unfold Prs at h ⊢
  induction h with
  | nil => exact .nil
  | cons a _ ih => exact .cons (s _ _ a) ih
theorem Prs.imp {H H' : Hp} {ts : List Addr} {ps : List (V × V)} (s : ∀ b xs, H b = some (.tup xs) → H' b = some (.tup xs)) (h : Prs H ts ps) : Prs H' ts ps := by
  unfold Prs at h ⊢
  induction h with
  | nil => exact .nil
  | cons a _ ih => exact .cons (s _ _ a) ih
theorem Prs.impOn {H H' : Hp} {ts : List Addr} {ps : List (V × V)} (h : Prs H ts ps) (s : ∀ b ∈ ts, ∀ xs, H b = some (.tup xs) → H' b = some (.tup xs)) : Prs H' ts ps := by
  unfold Prs at h ⊢
  induction h with
  | nil => exact .nil
  | cons a _ ih => exact .cons (s _ List.mem_cons_self _ a) (ih fun b hb => s b (List.mem_cons_of_mem _ hb))
theorem Prs.snoc {H : Hp} {ts : List Addr} {ps : List (V × V)} (h : Prs H ts ps) {t : Addr} {p : V × V} (ht : H t = some (.tup [p.1, p.2])) : Prs H (ts ++ [t]) (ps ++ [p]) := by
  unfold Prs at h ⊢
  induction h with
  | nil => exact .cons ht .nil
  | cons a _ ih => exact .cons a ih
theorem Prs.length {H : Hp} {ts : List Addr} {ps : List (V × V)} (h : Prs H ts ps) : ts.length = ps.length := Paired.length h
/-- a comprehension of pairs -/
theorem lcP {J : It} {n : Nat} {G : Hp → Prop} {Y : Nat → Hp → V → Hp → Prop} (w : Walk J n G Y) {g : TG} {te : TE} {vs : List Nat} {σ : L2.St} {H1 : Hp} {D : Addr} {Qd : Hp → Prop} (ps : List (V × V)) (hn : ps.length = n) (hz : n < 1000) (hD : H1 D = none)
    (hG : ∀ H, Same H1 H → G H)
    (hs : ∀ i x p H H', ps[i]? = some p → Same H1 H → Y i H x H' → H' = H ∧ ∀ R : V → Hp → Prop, (∀ t, H t = none → R (.ref t) (upd H t (.tup [p.1, p.2]))) → g x (wipe σ vs) H fun σ2 H2 => wipe σ2 vs = wipe σ vs ∧ te σ2 H2 R)
    (hd : ∀ H ts, Same H1 H → H D = some (.lst (ts.map V.ref)) → Prs H ts ps → (∀ t ∈ ts, H1 t = none) → Qd H) :
    ∃ W : Nat → Nat → Hp → Prop, (∃ m, W 0 m (upd H1 D (.lst []))) ∧ ∀ i m H, W i m H →
      (J.stop i H ∧ Qd H) ∨ (J.go i H ∧ ∃ Nx : Hp → Prop, (∀ H', Nx H' → ∃ m', m' < m ∧ W (i + 1) m' H') ∧ ∀ x H', J.yld i H x H' → g x (wipe σ vs) H' fun σ2 H2 => wipe σ2 vs = wipe σ vs ∧ tYes σ2 H2 fun b H3 =>
        if b = true then te σ2 H3 fun y H4 => ∃ acc, H4 D = some (.lst acc) ∧ acc.length < sizeLine ∧ Nx (upd H4 D (.lst (acc ++ [y]))) else Nx H3) := by
  refine lc_it w (fun i H => ∃ ts, Same H1 H ∧ H D = some (.lst (ts.map V.ref)) ∧ Prs H ts (ps.take i) ∧ ∀ t ∈ ts, H1 t = none) ⟨[], Same.put hD, upd_same, by simp; exact .nil, fun t ht => by simp at ht⟩ (fun i H hi ⟨_, s, _⟩ => hG H s) ?_ ?_
  · rintro i x H H' hi ⟨ts, s, eD, pr, nw⟩ hY
    have hi' : i < ps.length := by omega
    have hp : ps[i]? = some ps[i] := by simp [hi']
    obtain ⟨rfl, k⟩ := hs i x ps[i] H H' hp s hY
    have := k (fun y H4 => ∃ acc, H4 D = some (.lst acc) ∧ acc.length < sizeLine ∧ ∃ ts, Same H1 (upd H4 D (.lst (acc ++ [y]))) ∧ (upd H4 D (.lst (acc ++ [y]))) D = some (.lst (ts.map V.ref)) ∧ Prs (upd H4 D (.lst (acc ++ [y]))) ts (ps.take (i + 1)) ∧ ∀ t ∈ ts, H1 t = none) (fun t ht => ?_)
    · unfold tYes
      simpa using this
    · have htD : D ≠ t := ne_of_none eD ht
      have lt : ts.length = i := by rw [pr.length, List.length_take]; omega
      refine ⟨_, by rw [upd_ne htD]; exact eD, small1000 (by rw [List.length_map]; omega), ts ++ [t], ?_, by rw [upd_same]; simp, ?_, fun u hu => ?_⟩
      · intro b o e
        have e1 := s b o e
        rw [upd_ne (ne_of_none e hD), upd_ne (ne_of_none e1 ht)]
        exact e1
      · rw [take_succ' hp]
        have offD : ∀ b xs, H' b = some (.tup xs) → b ≠ D := fun b xs e z => by rw [z, eD] at e; cases e
        have p1 : Prs (upd (upd H' t (.tup [ps[i].1, ps[i].2])) D (.lst (ts.map V.ref ++ [.ref t]))) ts (ps.take i) := by
          exact pr.imp fun b xs e => by rw [upd_ne (offD _ _ e), upd_ne (ne_of_none e ht)]; exact e
        exact p1.snoc (by rw [upd_ne (Ne.symm htD), upd_same])
      · rcases List.mem_append.mp hu with hu | hu
        · exact nw u hu
        · rw [List.mem_singleton.mp hu]
          exact s.free ht
  · rintro H ⟨ts, s, eD, pr, nw⟩
    rw [List.take_of_length_le (by omega)] at pr
    exact hd H ts s eD pr nw
/-! ### what a Matching is -/
def Gd (m : SM) : Prop := (m.map (·.1)).Nodup ∧ (m.map (·.2)).Nodup ∧ m.length < 64
def pairsOf (m : SM) : SM := (sortS (m.map (·.1))).map fun k => (k, (m.lookup k).getD k)
def vv (l : SM) : List (V × V) := l.map fun p => (V.str p.1, V.str p.2)
def flds (d1 d2 l : Addr) : List (Str × V) := [("net_images", .ref d1), ("id_images", .ref d2), ("pairs", .ref l)]
theorem ne1 : (("id_images" : Str) == "net_images") = false := by decide +kernel
theorem ne2 : (("pairs" : Str) == "net_images") = false := by decide +kernel
theorem ne3 : (("pairs" : Str) == "id_images") = false := by decide +kernel
theorem flds_n (d1 d2 l : Addr) : (flds d1 d2 l).lookup ("net_images" : Str) = some (.ref d1) := by simp [flds, List.lookup_cons]
theorem flds_i (d1 d2 l : Addr) : (flds d1 d2 l).lookup ("id_images" : Str) = some (.ref d2) := by
  unfold flds
  rw [List.lookup_cons, ne1, List.lookup_cons, BEq.rfl]
theorem flds_p (d1 d2 l : Addr) : (flds d1 d2 l).lookup ("pairs" : Str) = some (.ref l) := by
  unfold flds
  rw [List.lookup_cons, ne2, List.lookup_cons, ne3, List.lookup_cons, BEq.rfl]
theorem flds_no (d1 d2 l : Addr) {m : Str} (h1 : (m == ("net_images" : Str)) = false) (h2 : (m == ("id_images" : Str)) = false) (h3 : (m == ("pairs" : Str)) = false) : (flds d1 d2 l).lookup m = none := by
  unfold flds
  rw [List.lookup_cons, h1, List.lookup_cons, h2, List.lookup_cons, h3]
  rfl
theorem flds_put (d1 d2 l : Addr) : putF "pairs" (.ref l) (putF "id_images" (.ref d2) (putF "net_images" (.ref d1) [])) = flds d1 d2 l := by
  have e1 : ¬ (("net_images" : Str) = "id_images") := by decide +kernel
  have e2 : ¬ (("net_images" : Str) = "pairs") := by decide +kernel
  have e3 : ¬ (("id_images" : Str) = "pairs") := by decide +kernel
  simp [putF, e1, e2, e3, flds]
structure MatchAt (C : Addr) (H : Hp) (p : Addr) (m1 m2 : SM) : Prop where
  ex : ∃ (dx d1 d2 l : Addr) (ts : List Addr), H p = some (.ins C dx (flds d1 d2 l)) ∧ H d1 = some (.dK (dS m1)) ∧ H d2 = some (.dK (dS m2)) ∧ H l = some (.lst (ts.map V.ref)) ∧ Prs H ts (vv (pairsOf m1))
  g1 : Gd m1
  g2 : Gd m2
theorem MatchAt.same {C : Addr} {H H' : Hp} {p : Addr} {m1 m2 : SM} (M : MatchAt C H p m1 m2) (s : Same H H') : MatchAt C H' p m1 m2 := by
  obtain ⟨⟨dx, d1, d2, l, ts, h1, h2, h3, h4, h5⟩, g1, g2⟩ := M
  exact ⟨⟨dx, d1, d2, l, ts, s _ _ h1, s _ _ h2, s _ _ h3, s _ _ h4, h5.same s⟩, g1, g2⟩
structure MTxt (K : PySem.W.Frag) (mg : Str → Option Value) (C : Addr) : Prop where
  cl : Cls K C
  nN : NoAttr K C "net_images"
  nI : NoAttr K C "id_images"
  nP : NoAttr K C "pairs"
  mgC : mg "Matching" = some (.ref C)
  ins : C8.InsC K C
  kD : PySem.W.kitOne K (.type "dict") (.ref C) = some false
abbrev sInit : Stmt := inClass (top 10) 0
def spInit (C : Addr) : Sp := fun vs H Q _ => ∃ (p dx d1 d2 : Addr) (m1 m2 : SM), vs = [.ref p, .ref d1, .ref d2] ∧ H p = some (.ins C dx []) ∧ H d1 = some (.dK (dS m1)) ∧ H d2 = some (.dK (dS m2)) ∧ Gd m1 ∧ Gd m2 ∧
  ∀ H', (∀ b o, H b = some o → b ≠ p → H' b = some o) → (∀ H2, (∀ c o, H' c = some o → (H c = none ∨ c = p) → H2 c = some o) → MatchAt C H2 p m1 m2) → Q .non H'
section
variable {P : Program} {w : World} {K : PySem.W.Frag} {mg : Str → Option Value} {base : Heap}
theorem scI : FnScope ["self", "nets", "ids", "net"] ["self", "nets", "ids"] (defScope sInit) := ⟨rfl, rfl, rfl, by decide +kernel, rfl, by decide +kernel, by decide +kernel⟩
theorem lookup_of_mem {m : SM} {k : Str} (h : k ∈ m.map (·.1)) : ∃ v, m.lookup k = some v := by
  induction m with
  | nil => simp at h
  | cons p r ih =>
    rw [List.lookup_cons]
    by_cases e : k = p.1
    · exact ⟨p.2, by simp [e]⟩
    · have : (k == p.1) = false := by simpa using e
      rw [this]
      exact ih (by
        rcases List.mem_cons.mp h with h | h
        · exact absurd h e
        · exact h)
theorem ok_init {f C fO fI : Addr} {fd fdO fdI : FuncData} (F : Fun K "__init__" "Matching.__init__" sInit f fd) (T : MTxt K mg C) (B : Blt mg) (GO : FnOk P w K mg base CX0 2 fO fdO ["thing"] spOne) (bO : L2.Binds K fdO ["thing"] []) (mO : mg "is_one_to_one" = some (.ref fO)) (kO : PySem.W.keepIn K (.ref fO) = true)
    (GI : FnOk P w K mg base CX0 1 fI fdI ["texts"] spInOrderD) (bI : L2.Binds K fdI ["texts"] []) (mI : mg "in_order" = some (.ref fI)) (kI : PySem.W.keepIn K (.ref fI) = true) : FnOk P w K mg base CX0 3 f fd ["self", "nets", "ids"] (spInit C) := by
  refine F.ok scI (fun vs H Q E h => ?_) (fun cdv A outer s H vs Q E hr h => ?_)
  · obtain ⟨p, dx, d1, d2, m1, m2, rfl, _⟩ := h
    rfl
  · obtain ⟨p, dx, d1, d2, m1, m2, rfl, hp, h1, h2, g1, g2, k⟩ := h
    have hu := hu_of hr
    have hr1 : Room 1 _ := hr.mono (by decide)
    refine ⟨_, pss_cons (ps_if (pt_not (pt_val (pe_call GO hr (by rfl) mO kO bO .nil pass0 (pa_cons (pv 1) pa_nil)))) (pss_one ps_never) pss_nil)
      (pss_cons (ps_if (pt_not (pt_val (pe_call GO hr (by rfl) mO kO bO .nil pass0 (pa_cons (pv 2) pa_nil)))) (pss_one ps_never) pss_nil)
      (pss_cons (ps_fld (pv 0) (pe_callTy call_dictD (by rfl) B.dict (by decide +kernel) (pa_cons (pv 1) pa_nil)) rfl)
      (pss_cons (ps_fld (pv 0) (pe_callTy call_dictD (by rfl) B.dict (by decide +kernel) (pa_cons (pv 2) pa_nil)) rfl)
      (pss_one (ps_fld (pv 0) (pe_lc (own := [("net", 3)]) (g := gName 3) (tt := tYes) rfl scI.nd (pi_list (pe_call GI hr1 (by rfl) mI kI bI .nil pass0 (pa_cons (pv 1) pa_nil))) (blkOk_by (own := [("net", 3)]) (N := ["self", "nets", "ids", "net"]) (sc := defScope sInit) (by decide +kernel))
        (fun _ _ _ _ _ => pg_name (i := 3) scI.nd rfl (Or.inl rfl)) (fun _ _ _ _ _ => pts_nil) (fun _ _ _ _ _ => pe_tup (pa_cons (pv 3) (pa_cons (pe_dget hu (pv 1) (pv 3) (fun _ _ => rfl)) pa_nil)))) rfl))))), ?_⟩
    -- both maps are one-to-one
    refine ⟨_, rfl, d1, m1, rfl, h1, g1.2.2, g1.2.1, fun H1 s1 => ⟨_, rfl, iteF ?_⟩⟩
    refine ⟨_, rfl, d2, m2, rfl, s1 _ _ h2, g2.2.2, g2.2.1, fun H2 s2 => ⟨_, rfl, iteF ?_⟩⟩
    have s02 : Same H H2 := s1.trans s2
    -- self.net_images = dict(nets)
    refine ⟨_, rfl, d1, dS m1, rfl, .inl (s02 _ _ h1), fun n1 hn1 => ?_⟩
    have hp2 := s02 _ _ hp
    refine ⟨_, rfl, p, C, dx, [], rfl, by rw [upd_ne (ne_of_none hp2 hn1)]; exact hp2, T.cl, T.nN, by show 0 < 1000; decide, ?_⟩
    have hd2p : d2 ≠ p := ne_of h2 hp (by intro z; cases z)
    have hd1p : d1 ≠ p := ne_of h1 hp (by intro z; cases z)
    have n1p : n1 ≠ p := fun z => by rw [z, hp2] at hn1; cases hn1
    refine ⟨_, rfl, d2, dS m2, rfl, .inl (by rw [upd_ne hd2p, upd_ne (ne_of_none (s02 _ _ h2) hn1)]; exact s02 _ _ h2), fun n2 hn2 => ?_⟩
    have n2p : p ≠ n2 := fun z => by rw [← z, upd_same] at hn2; cases hn2
    refine ⟨_, rfl, p, C, dx, _, rfl, by rw [upd_ne n2p, upd_same], T.cl, T.nI, by show 1 < 1000; decide, ?_⟩
    have hd1n1 : d1 ≠ n1 := ne_of_none (s02 _ _ h1) hn1
    have hn2' : H2 n2 = none := by
      by_cases z : n2 = n1
      · rw [z, upd_ne n1p, upd_same] at hn2
        cases hn2
      · rw [upd_ne (Ne.symm n2p), upd_ne z] at hn2
        exact hn2
    have hd1n2 : d1 ≠ n2 := ne_of_none (s02 _ _ h1) hn2'
    have hn21 : n1 ≠ n2 := fun z => by rw [← z, upd_ne n1p, upd_same] at hn2; cases hn2
    refine ⟨_, rfl, d1, m1, rfl, by rw [upd_ne hd1p, upd_ne hd1n2, upd_ne hd1p, upd_ne hd1n1]; exact s02 _ _ h1, g1.2.2, fun q H5 s5 hq5 hq => ?_⟩
    have e1 : H5 n1 = some (.dK (dS m1)) := s5 _ _ (by rw [upd_ne n1p, upd_ne hn21, upd_ne n1p, upd_same])
    have e2 : H5 n2 = some (.dK (dS m2)) := s5 _ _ (by rw [upd_ne (Ne.symm n2p), upd_same])
    have e3 : H5 p = some (.ins C dx (putF "id_images" (.ref n2) (putF "net_images" (.ref n1) []))) := s5 _ _ upd_same
    have e4 : H5 d1 = some (.dK (dS m1)) := s5 _ _ (by rw [upd_ne hd1p, upd_ne hd1n2, upd_ne hd1p, upd_ne hd1n1]; exact s02 _ _ h1)
    have kp : ∀ b o, H b = some o → b ≠ p → H5 b = some o := fun b o e hb => s5 _ _ (by
      have e' := s02 _ _ e
      rw [upd_ne hb, upd_ne (ne_of_none e' hn2'), upd_ne hb, upd_ne (ne_of_none e' hn1)]
      exact e')
    refine ⟨q, rfl, ⟨_, SqL.of hq⟩, fun D hD => ?_⟩
    refine lcP (walk_list (K := K) (a := q) (xs := (sortS (m1.map (·.1))).map V.str)) (vv (pairsOf m1)) (by simp [vv, pairsOf]) (by simp [sortS_length]; have := g1.2.2; omega) hD (fun H6 s6 => SqL.of (s6 _ _ hq)) (fun i x pr H6 H7 hpr s6 hY => ?_) (fun H6 ts s6 hD6 hts nts => ?_)
    · obtain ⟨rfl, hx⟩ := hY
      obtain ⟨z, hz, rfl⟩ := getS hx
      obtain ⟨v, hv⟩ : ∃ v, m1.lookup z = some v := lookup_of_mem ((sortS_perm _).mem_iff.mp (List.mem_of_getElem? hz))
      have hpr' : pr = (V.str z, V.str v) := by
        unfold vv pairsOf at hpr
        rw [List.getElem?_map, List.getElem?_map, hz] at hpr
        have := (Option.some.inj hpr).symm
        rw [this]
        show (V.str z, V.str ((m1.lookup z).getD z)) = _
        rw [hv]
        rfl
      subst hpr'
      refine ⟨rfl, fun R hR => ⟨rfl, _, rfl, _, rfl, _, rfl, d1, .str v, rfl, ?_, by show 2 ≤ sizeLine; decide, fun t ht => hR t ht⟩⟩
      have := DGet.k (k := (Sum.inr z : Key)) (s6 _ _ e4)
      rw [valV_dS, hv] at this
      exact this
    · refine ⟨_, rfl, p, C, dx, _, rfl, s6 _ _ e3, T.cl, T.nP, by rw [show (putF "id_images" (V.ref n2) (putF "net_images" (V.ref n1) [])).length = 2 from by simp [putF, show ¬ (("net_images" : Str) = "id_images") by decide +kernel]]; decide, ?_⟩
      have hpn : ∀ {b : Addr} {o : HO}, H6 b = some o → (∀ fs, o ≠ .ins C dx fs) → b ≠ p := fun {b o} e hne z => by
        rw [z, s6 _ _ e3] at e
        exact hne _ (Option.some.inj e).symm
      have new : ∀ {c : Addr}, H5 c = none → c ≠ p → H c = none := fun {c} e hc => by
        cases q : H c with
        | none => rfl
        | some o => rw [kp c o q hc] at e; cases e
      have q0 : H n1 = none := s02.free hn1
      have q1 : H n2 = none := s02.free hn2'
      have q2 : H D = none := new hD (hpn hD6 (by intro fs z; cases z))
      refine k _ (fun b o e hb => by rw [upd_ne hb]; exact s6 _ _ (kp b o e hb)) fun G hG => ⟨⟨dx, n1, n2, D, ts, hG _ _ (by rw [upd_same, flds_put]) (.inr rfl), hG _ _ ?_ (.inl q0), hG _ _ ?_ (.inl q1), hG _ _ ?_ (.inl q2), ?_⟩, g1, g2⟩
      · rw [upd_ne (hpn (s6 _ _ e1) (by intro fs z; cases z))]; exact s6 _ _ e1
      · rw [upd_ne (hpn (s6 _ _ e2) (by intro fs z; cases z))]; exact s6 _ _ e2
      · rw [upd_ne (hpn hD6 (by intro fs z; cases z))]; exact hD6
      · have tn : ∀ t ∈ ts, ∀ xs, H6 t = some (.tup xs) → G t = some (.tup xs) := fun t ht xs e => hG _ _ (by rw [upd_ne (hpn e (by intro fs z; cases z))]; exact e) (.inl (new (nts t ht) (hpn e (by intro fs z; cases z))))
        exact hts.impOn tn
end
end WW
namespace WW
open PySem PySem.Spec PyProof.Rows L2
/-! ### maps as lists of pairs -/
def keys (m : SM) : List Str := m.map (·.1)
def vals (m : SM) : List Str := m.map (·.2)
def img (n : SM) (v : Str) : Str := (n.lookup v).getD v
def comp (m n : SM) : SM := m.map fun p => (p.1, img n p.2)
def inv (m : SM) : SM := m.map fun p => (p.2, p.1)
theorem mem_of_lookup {m : SM} {k v : Str} (h : m.lookup k = some v) : (k, v) ∈ m := by
  induction m with
  | nil => simp at h
  | cons p r ih =>
    rw [List.lookup_cons] at h
    by_cases e : k = p.1
    · have : (k == p.1) = true := by simp [e]
      rw [this] at h
      have : v = p.2 := (Option.some.inj h).symm
      rw [e, this]
      exact List.mem_cons_self
    · have : (k == p.1) = false := by simpa using e
      rw [this] at h
      exact List.mem_cons_of_mem _ (ih h)
theorem lookup_of {m : SM} (nd : (keys m).Nodup) {k v : Str} (h : (k, v) ∈ m) : m.lookup k = some v := by
  induction m with
  | nil => simp at h
  | cons p r ih =>
    have nd' := List.nodup_cons.mp nd
    rw [List.lookup_cons]
    rcases List.mem_cons.mp h with e | h'
    · rw [← e]; simp
    · have : (k == p.1) = false := by
        simp only [beq_eq_false_iff_ne]
        intro e
        exact nd'.1 (List.mem_map.mpr ⟨(k, v), h', e⟩)
      rw [this]
      exact ih nd'.2 h'
theorem keys_comp (m n : SM) : keys (comp m n) = keys m := by unfold keys comp; rw [List.map_map]; rfl
theorem vals_comp (m n : SM) : vals (comp m n) = (vals m).map (img n) := by unfold vals comp; rw [List.map_map, List.map_map]; rfl
theorem keys_inv (m : SM) : keys (inv m) = vals m := by unfold keys inv vals; rw [List.map_map]; rfl
theorem vals_inv (m : SM) : vals (inv m) = keys m := by unfold keys inv vals; rw [List.map_map]; rfl
theorem inv_inv (m : SM) : inv (inv m) = m := by unfold inv; rw [List.map_map]; exact List.map_id m
theorem img_of {n : SM} (nd : (keys n).Nodup) {v x : Str} (h : (v, x) ∈ n) : img n v = x := by unfold img; rw [lookup_of nd h]; rfl
theorem img_mem {n : SM} {v : Str} (h : v ∈ keys n) : (v, img n v) ∈ n := by
  obtain ⟨x, hx⟩ := lookup_of_mem h
  unfold img
  rw [hx]
  exact mem_of_lookup hx
theorem lookup_img {n : SM} {v : Str} (h : v ∈ keys n) : n.lookup v = some (img n v) := by
  obtain ⟨x, hx⟩ := lookup_of_mem h
  unfold img
  rw [hx]
  rfl
theorem val_inj {n : SM} (nd : (vals n).Nodup) {a b x : Str} (h1 : (a, x) ∈ n) (h2 : (b, x) ∈ n) : a = b := by
  induction n with
  | nil => simp at h1
  | cons p r ih =>
    have nd' := List.nodup_cons.mp nd
    rcases List.mem_cons.mp h1 with e1 | h1
    · rcases List.mem_cons.mp h2 with e2 | h2
      · rw [← e1] at e2
        exact (Prod.mk.inj e2).1.symm
      · exact absurd (List.mem_map.mpr ⟨(b, x), h2, by rw [← e1]⟩) nd'.1
    · rcases List.mem_cons.mp h2 with e2 | h2
      · exact absurd (List.mem_map.mpr ⟨(a, x), h1, by rw [← e2]⟩) nd'.1
      · exact ih nd'.2 h1 h2
theorem nodup_map_on {α β : Type} {f : α → β} : ∀ {l : List α}, (∀ a ∈ l, ∀ b ∈ l, f a = f b → a = b) → l.Nodup → (l.map f).Nodup
  | [], _, _ => List.nodup_nil
  | x :: l, h, nd => by
    have nd' := List.nodup_cons.mp nd
    rw [List.map_cons]
    refine List.nodup_cons.mpr ⟨fun hm => ?_, nodup_map_on (fun a ha b hb => h a (List.mem_cons_of_mem _ ha) b (List.mem_cons_of_mem _ hb)) nd'.2⟩
    obtain ⟨y, hy, e⟩ := List.mem_map.mp hm
    rw [h x List.mem_cons_self y (List.mem_cons_of_mem _ hy) e.symm] at nd'
    exact nd'.1 hy
theorem Gd.comp {m n : SM} (g : Gd m) (h : Gd n) (s : ∀ v ∈ vals m, v ∈ keys n) : Gd (comp m n) := by
  refine ⟨?_, ?_, ?_⟩
  · show (keys (WW.comp m n)).Nodup
    rw [keys_comp]
    exact g.1
  · show (vals (WW.comp m n)).Nodup
    rw [vals_comp]
    refine nodup_map_on (fun a ha b hb e => ?_) g.2.1
    have h1 := img_mem (s a ha)
    have h2 := img_mem (s b hb)
    rw [e] at h1
    exact val_inj h.2.1 h1 h2
  · unfold WW.comp
    rw [List.length_map]
    exact g.2.2
theorem Gd.inv {m : SM} (g : Gd m) : Gd (inv m) := ⟨by show (keys (WW.inv m)).Nodup; rw [keys_inv]; exact g.2.1, by show (vals (WW.inv m)).Nodup; rw [vals_inv]; exact g.1, by unfold WW.inv; rw [List.length_map]; exact g.2.2⟩
theorem dEq_iff {m n : SM} : dEq m n = true ↔ m.length = n.length ∧ ∀ p ∈ m, n.lookup p.1 = some p.2 := by
  unfold dEq
  simp
theorem dEq_refl {m : SM} (g : Gd m) : dEq m m = true := dEq_iff.mpr ⟨rfl, fun p hp => lookup_of g.1 hp⟩
/-- the law's own: dicts with the same pairs -/
theorem comp_inv_id {m : SM} (g : Gd m) : ∀ p ∈ comp m (inv m), p.1 = p.2 := by
  intro p hp
  obtain ⟨q, hq, rfl⟩ := List.mem_map.mp hp
  show q.1 = img (inv m) q.2
  exact (img_of (n := inv m) g.inv.1 (List.mem_map.mpr ⟨q, hq, rfl⟩)).symm
theorem comp_id {m n : SM} (g : Gd n) (hk : keys m = keys n) (hi : ∀ p ∈ m, p.1 = p.2) : comp m n = n := by
  have e : m = (keys n).map fun k => (k, k) := by
    rw [← hk]
    unfold keys
    rw [List.map_map]
    conv => lhs; rw [← List.map_id m]
    refine List.map_congr_left fun p hp => ?_
    have := hi p hp
    exact Prod.ext rfl this.symm
  rw [e]
  unfold comp keys
  rw [List.map_map, List.map_map]
  conv => rhs; rw [← List.map_id n]
  refine List.map_congr_left fun p hp => ?_
  show (p.1, img n p.1) = p
  rw [img_of g.1 (show (p.1, p.2) ∈ n from hp)]
end WW
namespace WW
open PySem PySem.Spec PyProof.Rows L2
abbrev sCall : Stmt := inClass (top 10) 2
abbrev sIdOf : Stmt := inClass (top 10) 3
abbrev sNetMap : Stmt := inClass (top 10) 4
abbrev sIdMap : Stmt := inClass (top 10) 5
abbrev sMul : Stmt := inClass (top 10) 6
abbrev sInv : Stmt := inClass (top 10) 7
abbrev sIsId : Stmt := inClass (top 10) 9
abbrev sEq : Stmt := inClass (top 10) 10
abbrev sLen : Stmt := inClass (top 10) 11
abbrev sIter : Stmt := inClass (top 10) 12
abbrev sFits : Stmt := top 11
theorem rd_frz {H : Hp} {d e D : Addr} {od : Obj} {u v x : HO} (hd : H d = some u) (he : H e = some v) (hD : H D = none) : Rd (upd (upd H d (.frz od u)) D x) e v := by
  have e1 : e ≠ D := ne_of_none he hD
  by_cases z : e = d
  · subst z
    rw [hd] at he
    cases he
    exact .inr ⟨od, by rw [upd_ne e1, upd_same]⟩
  · exact .inl (by rw [upd_ne e1, upd_ne z]; exact he)
theorem dget_R {H : Hp} {d : Addr} {m : SM} (hd : Rd H d (.dK (dS m))) {k v : Str} (h : m.lookup k = some v) : DGet H d (.str k) (some (.str v)) := .inl ⟨dS m, Sum.inr k, hd, rfl, by rw [valV_dS, h]; rfl⟩
/-- a Matching whose dicts may be locked -/
def MatchRd (C : Addr) (H : Hp) (p : Addr) (m1 m2 : SM) : Prop := ∃ (dx d1 d2 l : Addr), H p = some (.ins C dx (flds d1 d2 l)) ∧ Rd H d1 (.dK (dS m1)) ∧ Rd H d2 (.dK (dS m2))
theorem MatchAt.rd {C : Addr} {H : Hp} {p : Addr} {m1 m2 : SM} (M : MatchAt C H p m1 m2) : MatchRd C H p m1 m2 := by
  obtain ⟨dx, d1, d2, l, ts, h1, h2, h3, h4, h5⟩ := M.ex
  exact ⟨dx, d1, d2, l, h1, .inl h2, .inl h3⟩
theorem MatchAt.frz {C : Addr} {H : Hp} {p a D : Addr} {m1 m2 m : SM} {od : Obj} {x : HO} (M : MatchAt C H p m1 m2) (ha : H a = some (.dK (dS m))) (hD : H D = none) : MatchRd C (upd (upd H a (.frz od (.dK (dS m)))) D x) p m1 m2 := by
  obtain ⟨dx, d1, d2, l, ts, h1, h2, h3, h4, h5⟩ := M.ex
  refine ⟨dx, d1, d2, l, ?_, rd_frz ha h2 hD, rd_frz ha h3 hD⟩
  rw [upd_ne (ne_of_none h1 hD), upd_ne (ne_of h1 ha (by intro z; cases z))]
  exact h1
def spCallM (C : Addr) : Sp := fun vs H Q _ => ∃ (p : Addr) (m1 m2 : SM) (k v : Str), vs = [.ref p, .str k] ∧ MatchRd C H p m1 m2 ∧ m1.lookup k = some v ∧ Q (.str v) H
def spIdOf (C : Addr) : Sp := fun vs H Q _ => ∃ (p : Addr) (m1 m2 : SM) (k v : Str), vs = [.ref p, .str k] ∧ MatchRd C H p m1 m2 ∧ m2.lookup k = some v ∧ Q (.str v) H
def spNetMap (C : Addr) : Sp := fun vs H Q _ => ∃ (p : Addr) (m1 m2 : SM), vs = [.ref p] ∧ MatchAt C H p m1 m2 ∧ ∀ d, H d = none → Q (.ref d) (upd H d (.dK (dS m1)))
def spIdMap (C : Addr) : Sp := fun vs H Q _ => ∃ (p : Addr) (m1 m2 : SM), vs = [.ref p] ∧ MatchAt C H p m1 m2 ∧ ∀ d, H d = none → Q (.ref d) (upd H d (.dK (dS m2)))
def spLenM (C : Addr) : Sp := fun vs H Q _ => ∃ (p : Addr) (m1 m2 : SM), vs = [.ref p] ∧ MatchAt C H p m1 m2 ∧ Q (.int m1.length) H
theorem dget_S {H : Hp} {d : Addr} {m : SM} (hd : H d = some (.dK (dS m))) {k v : Str} (h : m.lookup k = some v) : DGet H d (.str k) (some (.str v)) := by
  have := DGet.k (k := (Sum.inr k : Key)) hd
  rw [valV_dS, h] at this
  exact this
theorem pairsOf_length (m : SM) : (vv (pairsOf m)).length = m.length := by simp [vv, pairsOf, sortS_length]
section
variable {P : Program} {w : World} {K : PySem.W.Frag} {mg : Str → Option Value} {base : Heap} {f C : Addr} {fd : FuncData}
theorem scC : FnScope ["self", "net"] ["self", "net"] (defScope sCall) := ⟨rfl, rfl, rfl, by decide +kernel, rfl, by decide +kernel, by decide +kernel⟩
theorem ok_callM (F : Fun K "__call__" "Matching.__call__" sCall f fd) (T : MTxt K mg C) (B : Blt mg) : FnOk P w K mg base CX0 1 f fd ["self", "net"] (spCallM C) := by
  refine F.ok scC (fun vs H Q E h => ?_) (fun cdv A outer s H vs Q E hr h => ?_)
  · obtain ⟨p, m1, m2, k, v, rfl, _⟩ := h
    rfl
  · obtain ⟨p, m1, m2, k, v, rfl, M, hv, q⟩ := h
    have hu := hu_of hr
    obtain ⟨dx, d1, d2, l, h1, h2, h3⟩ := M
    refine ⟨_, pss_cons (ps_if (PW.pt (pw_or (pt_not (pt_val (pe_callB call_isi (by rfl) B.isinstance (by decide +kernel) (pa_cons (pv 1) (pa_cons (pe_bltn (v := .ty "str") (by rfl) B.str (by decide +kernel) rfl) pa_nil)))))
        (pw_or1 (pt_cmp (pc_dnotin hu (pv 1) (pe_fld (pv 0) rfl)))))) (pss_one ps_never) pss_nil)
      (pss_one (ps_ret (pe_dget hu (pe_fld (pv 0) rfl) (pv 1) (fun _ _ => rfl)))), ?_⟩
    refine ⟨_, rfl, _, _, _, _, true, rfl, .ty _, .base (.str _), kit_ty (by decide +kernel), _, rfl, iteF ?_⟩
    refine ⟨_, rfl, _, rfl, p, C, dx, _, _, rfl, h1, T.cl, T.nN, flds_n _ _ _, d1, _, rfl, dget_R h2 hv, _, rfl, iteF ?_⟩
    exact ⟨_, rfl, p, C, dx, _, _, rfl, h1, T.cl, T.nN, flds_n _ _ _, _, rfl, d1, _, rfl, dget_R h2 hv, q⟩
theorem scD : FnScope ["self", "name"] ["self", "name"] (defScope sIdOf) := ⟨rfl, rfl, rfl, by decide +kernel, rfl, by decide +kernel, by decide +kernel⟩
theorem ok_idOf (F : Fun K "id_of" "Matching.id_of" sIdOf f fd) (T : MTxt K mg C) (B : Blt mg) : FnOk P w K mg base CX0 1 f fd ["self", "name"] (spIdOf C) := by
  refine F.ok scD (fun vs H Q E h => ?_) (fun cdv A outer s H vs Q E hr h => ?_)
  · obtain ⟨p, m1, m2, k, v, rfl, _⟩ := h
    rfl
  · obtain ⟨p, m1, m2, k, v, rfl, M, hv, q⟩ := h
    have hu := hu_of hr
    obtain ⟨dx, d1, d2, l, h1, h2, h3⟩ := M
    refine ⟨_, pss_cons (ps_if (PW.pt (pw_or (pt_not (pt_val (pe_callB call_isi (by rfl) B.isinstance (by decide +kernel) (pa_cons (pv 1) (pa_cons (pe_bltn (v := .ty "str") (by rfl) B.str (by decide +kernel) rfl) pa_nil)))))
        (pw_or1 (pt_cmp (pc_dnotin hu (pv 1) (pe_fld (pv 0) rfl)))))) (pss_one ps_never) pss_nil)
      (pss_one (ps_ret (pe_dget hu (pe_fld (pv 0) rfl) (pv 1) (fun _ _ => rfl)))), ?_⟩
    refine ⟨_, rfl, _, _, _, _, true, rfl, .ty _, .base (.str _), kit_ty (by decide +kernel), _, rfl, iteF ?_⟩
    refine ⟨_, rfl, _, rfl, p, C, dx, _, _, rfl, h1, T.cl, T.nI, flds_i _ _ _, d2, _, rfl, dget_R h3 hv, _, rfl, iteF ?_⟩
    exact ⟨_, rfl, p, C, dx, _, _, rfl, h1, T.cl, T.nI, flds_i _ _ _, _, rfl, d2, _, rfl, dget_R h3 hv, q⟩
theorem scNM : FnScope ["self"] ["self"] (defScope sNetMap) := ⟨rfl, rfl, rfl, by decide +kernel, rfl, by decide +kernel, by decide +kernel⟩
theorem ok_netMap (F : Fun K "net_map" "Matching.net_map" sNetMap f fd) (T : MTxt K mg C) (B : Blt mg) : FnOk P w K mg base CX0 1 f fd ["self"] (spNetMap C) := by
  refine F.ok scNM (fun vs H Q E h => ?_) (fun cdv A outer s H vs Q E hr h => ?_)
  · obtain ⟨p, m1, m2, rfl, _⟩ := h
    rfl
  · obtain ⟨p, m1, m2, rfl, M, q⟩ := h
    obtain ⟨⟨dx, d1, d2, l, ts, h1, h2, h3, h4, h5⟩, g1, g2⟩ := M
    refine ⟨_, pss_one (ps_ret (pe_callTy call_dictD (by rfl) B.dict (by decide +kernel) (pa_cons (pe_fld (pv 0) rfl) pa_nil))), ?_⟩
    exact ⟨_, rfl, p, C, dx, _, _, rfl, h1, T.cl, T.nN, flds_n _ _ _, d1, _, rfl, .inl h2, q⟩
theorem scIM : FnScope ["self"] ["self"] (defScope sIdMap) := ⟨rfl, rfl, rfl, by decide +kernel, rfl, by decide +kernel, by decide +kernel⟩
theorem ok_idMap (F : Fun K "id_map" "Matching.id_map" sIdMap f fd) (T : MTxt K mg C) (B : Blt mg) : FnOk P w K mg base CX0 1 f fd ["self"] (spIdMap C) := by
  refine F.ok scIM (fun vs H Q E h => ?_) (fun cdv A outer s H vs Q E hr h => ?_)
  · obtain ⟨p, m1, m2, rfl, _⟩ := h
    rfl
  · obtain ⟨p, m1, m2, rfl, M, q⟩ := h
    obtain ⟨⟨dx, d1, d2, l, ts, h1, h2, h3, h4, h5⟩, g1, g2⟩ := M
    refine ⟨_, pss_one (ps_ret (pe_callTy call_dictD (by rfl) B.dict (by decide +kernel) (pa_cons (pe_fld (pv 0) rfl) pa_nil))), ?_⟩
    exact ⟨_, rfl, p, C, dx, _, _, rfl, h1, T.cl, T.nI, flds_i _ _ _, d2, _, rfl, .inl h3, q⟩
theorem scLn : FnScope ["self"] ["self"] (defScope sLen) := ⟨rfl, rfl, rfl, by decide +kernel, rfl, by decide +kernel, by decide +kernel⟩
theorem ok_lenM (F : Fun K "__len__" "Matching.__len__" sLen f fd) (T : MTxt K mg C) (B : Blt mg) : FnOk P w K mg base CX0 1 f fd ["self"] (spLenM C) := by
  refine F.ok scLn (fun vs H Q E h => ?_) (fun cdv A outer s H vs Q E hr h => ?_)
  · obtain ⟨p, m1, m2, rfl, _⟩ := h
    rfl
  · obtain ⟨p, m1, m2, rfl, M, q⟩ := h
    obtain ⟨⟨dx, d1, d2, l, ts, h1, h2, h3, h4, h5⟩, g1, g2⟩ := M
    refine ⟨_, pss_one (ps_ret (pe_callB call_len_seq (by rfl) B.len PySem.boot_len (pa_cons (pe_fld (pv 0) rfl) pa_nil))), ?_⟩
    refine ⟨_, rfl, p, C, dx, _, _, rfl, h1, T.cl, T.nP, flds_p _ _ _, l, _, rfl, .inl (SqL.of h4), ?_⟩
    have e : ((ts.map V.ref).length : Int) = (m1.length : Int) := by rw [List.length_map, h5.length, pairsOf_length]
    show Q (.int ((ts.map V.ref).length : Int)) H
    rw [e]
    exact q
def fitB (m1 m2 n1 n2 : SM) : Bool := decide (sortS (vals m1) = sortS (keys n1)) && decide (sortS (vals m2) = sortS (keys n2))
theorem fitB_of {m1 m2 n1 n2 : SM} (p1 : (vals m1).Perm (keys n1)) (p2 : (vals m2).Perm (keys n2)) : fitB m1 m2 n1 n2 = true := by
  unfold fitB
  rw [decide_eq_true (sortS_congr p1), decide_eq_true (sortS_congr p2)]
  rfl
def spFits (C : Addr) : Sp := fun vs H Q _ => ∃ (p q : Addr) (m1 m2 n1 n2 : SM), vs = [.ref p, .ref q] ∧ MatchAt C H p m1 m2 ∧ MatchAt C H q n1 n2 ∧ ∀ H', Same H H' → Q (.bl (fitB m1 m2 n1 n2)) H'
theorem scF : FnScope ["one", "other", "nets"] ["one", "other"] (defScope sFits) := ⟨rfl, rfl, rfl, by decide +kernel, rfl, by decide +kernel, by decide +kernel⟩
end
end WW
namespace WW
open PySem PySem.Spec PyProof.Rows L2
section
variable {P : Program} {w : World} {K : PySem.W.Frag} {mg : Str → Option Value} {base : Heap} {f C : Addr} {fd : FuncData}
theorem vals_dS (m : SM) : (dS m).map (·.2) = (vals m).map V.str := by unfold dS vals; rw [List.map_map, List.map_map]; rfl
theorem vals_len (m : SM) : (vals m).length = m.length := by unfold vals; exact List.length_map _
theorem ok_fits {fI : Addr} {fdI : FuncData} (F : Fun K "fits_behind" "fits_behind" sFits f fd) (T : MTxt K mg C) (B : Blt mg) (GL : FnOk P w K mg base CX0 1 fI fdI ["texts"] (spInOrderL K)) (GI : FnOk P w K mg base CX0 1 fI fdI ["texts"] spInOrderD) (bI : L2.Binds K fdI ["texts"] []) (mI : mg "in_order" = some (.ref fI)) (kI : PySem.W.keepIn K (.ref fI) = true) :
    FnOk P w K mg base CX0 2 f fd ["one", "other"] (spFits C) := by
  refine F.ok scF (fun vs H Q E h => ?_) (fun cdv A outer s H vs Q E hr h => ?_)
  · obtain ⟨p, q, m1, m2, n1, n2, rfl, _⟩ := h
    rfl
  · obtain ⟨p, q, m1, m2, n1, n2, rfl, M, N, k⟩ := h
    have hu : _ < _ := hr.units0
    obtain ⟨⟨dx, d1, d2, l, ts, h1, h2, h3, h4, h5⟩, g1, g2⟩ := M
    obtain ⟨⟨dy, e1, e2, l', ts', i1, i2, i3, i4, i5⟩, g3, g4⟩ := N
    refine ⟨_, pss_cons (ps_set (i := 2) scF.nd rfl (Or.inl rfl) (pe_cmpR (op_eqSL hu) (pe_call GL hr (by rfl) mI kI bI .nil pass0 (pa_cons (pe_listVals rfl (pe_fld (pv 0) rfl) (by rfl) B.list (by decide +kernel)) pa_nil)) (pe_call GI hr (by rfl) mI kI bI .nil pass0 (pa_cons (pe_fld (pv 1) rfl) pa_nil)) (nomark _)))
      (pss_one (ps_ret (pe_and (pv 2) (pe_one (pe_cmpR (op_eqSL hu) (pe_call GL hr (by rfl) mI kI bI .nil pass0 (pa_cons (pe_listVals rfl (pe_fld (pv 0) rfl) (by rfl) B.list (by decide +kernel)) pa_nil)) (pe_call GI hr (by rfl) mI kI bI .nil pass0 (pa_cons (pe_fld (pv 1) rfl) pa_nil)) (nomark _)))))), ?_⟩
    refine ⟨_, rfl, p, C, dx, _, _, rfl, h1, T.cl, T.nN, flds_n _ _ _, d1, _, rfl, h2, fun a ha => ?_⟩
    rw [vals_dS]
    refine ⟨a, vals m1, rfl, SqL.of upd_same, by rw [vals_len]; exact g1.2.2, fun b H1 s1 hb1 hb => ?_⟩
    have s01 : Same H H1 := (Same.put ha).trans s1
    refine ⟨_, rfl, q, C, dy, _, _, rfl, s01 _ _ i1, T.cl, T.nN, flds_n _ _ _, e1, n1, rfl, s01 _ _ i2, g3.2.2, fun c H2 s2 hc2 hc => ?_⟩
    refine ⟨b, c, _, _, rfl, rfl, SqL.of (s2 _ _ hb), SqL.of hc, ?_⟩
    have k' := k
    unfold fitB at k'
    cases hb : decide (sortS (vals m1) = sortS (n1.map (·.1))) with
    | false =>
      have hb' : decide (sortS (vals m1) = sortS (keys n1)) = false := hb
      rw [hb', Bool.false_and] at k'
      refine ⟨_, rfl, _, rfl, iteF ?_⟩
      exact k' _ (s01.trans s2)
    | true =>
    have hb' : decide (sortS (vals m1) = sortS (keys n1)) = true := hb
    rw [hb', Bool.true_and] at k'
    refine ⟨_, rfl, _, rfl, iteT ?_⟩
    have s02 : Same H H2 := s01.trans s2
    refine ⟨_, rfl, p, C, dx, _, _, rfl, s02 _ _ h1, T.cl, T.nI, flds_i _ _ _, d2, _, rfl, s02 _ _ h3, fun a' ha' => ?_⟩
    rw [vals_dS]
    refine ⟨a', vals m2, rfl, SqL.of upd_same, by rw [vals_len]; exact g2.2.2, fun b' H3 s3 hb3 hb'' => ?_⟩
    have s03 : Same H H3 := s02.trans ((Same.put ha').trans s3)
    refine ⟨_, rfl, q, C, dy, _, _, rfl, s03 _ _ i1, T.cl, T.nI, flds_i _ _ _, e2, n2, rfl, s03 _ _ i3, g4.2.2, fun c' H4 s4 hc4 hc' => ?_⟩
    refine ⟨b', c', _, _, rfl, rfl, SqL.of (s4 _ _ hb''), SqL.of hc', ?_⟩
    have := k' H4 (s03.trans s4)
    rw [show (true == decide (sortS (vals m2) = sortS (n2.map (·.1)))) = decide (sortS (vals m2) = sortS (keys n2)) by unfold keys; cases decide (sortS (vals m2) = sortS (n2.map (·.1))) <;> rfl]
    exact this
def spMul (C : Addr) : Sp := fun vs H Q _ => ∃ (p q : Addr) (m1 m2 n1 n2 : SM), vs = [.ref p, .ref q] ∧ MatchAt C H p m1 m2 ∧ MatchAt C H q n1 n2 ∧ (vals m1).Perm (keys n1) ∧ (vals m2).Perm (keys n2) ∧
  ∀ r H', Same H H' → H r = none → MatchAt C H' r (comp m1 n1) (comp m2 n2) → Q (.ref r) H'
theorem scM : FnScope ["self", "other", "nets", "net", "name"] ["self", "other"] (defScope sMul) := ⟨rfl, rfl, rfl, by decide +kernel, rfl, by decide +kernel, by decide +kernel⟩
/-- {k: other[self[k]] for k in self}, self at d1, other at e1: a new dict at D -/
theorem getD {m : SM} {i : Nat} {k : Key} {v : V} (e : (dS m)[i]? = some (k, v)) : ∃ a b, m[i]? = some (a, b) ∧ k = Sum.inr a ∧ v = V.str b := by
  unfold dS at e
  rw [List.getElem?_map] at e
  cases q : m[i]? with
  | none => rw [q] at e; cases e
  | some pr => rw [q] at e; cases e; exact ⟨pr.1, pr.2, rfl, rfl, rfl⟩
theorem nodup_inr {l : List Str} (nd : l.Nodup) : (l.map fun x => (Sum.inr x : Key)).Nodup := nodup_map (fun _ _ e => Sum.inr.inj e) nd
theorem dS_comp_take (m n : SM) (i : Nat) : dS ((comp m n).take i) = (m.take i).map fun p => ((Sum.inr p.1 : Key), V.str (img n p.2)) := by
  unfold dS comp
  rw [← List.map_take, List.map_map]
  rfl
abbrev tMulV (K : PySem.W.Frag) (x : Str) (i : Nat) : TE := tDGet (tFld K (tVar 1) x) (tDGet (tFld K (tVar 0) x) (tVar i))
theorem ok_mul {fN fF : Addr} {fdN fdF : FuncData} (F : Fun K "__mul__" "Matching.__mul__" sMul f fd) (T : MTxt K mg C) (B : Blt mg) (GF : FnOk P w K mg base CX0 2 fF fdF ["one", "other"] (spFits C)) (bF : L2.Binds K fdF ["one", "other"] []) (mF : mg "fits_behind" = some (.ref fF)) (kF : PySem.W.keepIn K (.ref fF) = true)
    (GN : FnOk P w K mg base CX0 3 fN fdN ["self", "nets", "ids"] (spInit C)) (bN : L2.Binds K fdN ["self", "nets", "ids"] []) (MK : Mk K C fN) : FnOk P w K mg base CX0 5 f fd ["self", "other"] (spMul C) := by
  refine F.ok scM (fun vs H Q E h => ?_) (fun cdv A outer s H vs Q E hr h => ?_)
  · obtain ⟨p, q, m1, m2, n1, n2, rfl, _⟩ := h
    rfl
  · obtain ⟨p, q, m1, m2, n1, n2, rfl, M, N, p1, p2, k⟩ := h
    have hu := hu_of hr
    have hr2 : Room 2 _ := hr.mono (by decide)
    refine ⟨_, pss_cons (ps_if (PW.pt (pw_or (pt_not (pt_val (pe_callB (C8.call_isC T.ins) (by rfl) B.isinstance (by decide +kernel) (pa_cons (pv 1) (pa_cons (pe_glob (v := .ref C) rfl T.mgC rfl) pa_nil)))))
        (pw_or1 (pt_not (pt_val (pe_call GF hr2 (by rfl) mF kF bF .nil pass0 (pa_cons (pv 0) (pa_cons (pv 1) pa_nil)))))))) (pss_one ps_never) pss_nil)
      (pss_cons (ps_lock (ps_setDc (i := 2) (own := [("net", 3)]) (g := gName 3) (tt := tYes) (tk := tVar 3) (tv := tMulV K "net_images" 3) rfl scM.nd rfl rfl (swD_true rfl rfl rfl (by decide +kernel)) (pi_keys (pe_fld (pv 0) rfl)) (blkOk_by (own := [("net", 3)]) (N := ["self", "other", "nets", "net", "name"]) (sc := defScope sMul) (by decide +kernel))
        (fun _ _ _ _ _ => pg_name (i := 3) scM.nd rfl (Or.inl rfl)) (fun _ _ _ _ _ => pts_nil) (fun _ _ _ _ _ => pv 3) (fun _ _ _ _ _ => pe_dget hu (pe_fld (pv 1) rfl) (pe_dget hu (pe_fld (pv 0) rfl) (pv 3) (fun _ _ => rfl)) (fun _ _ => rfl))))
      (pss_one (ps_ret (pe_make MK GN hr (by rfl) T.mgC bN .nil pass0 (pa_cons (pv 2) (pa_cons (pe_lock (pe_dc (own := [("name", 4)]) (g := gName 4) (tt := tYes) (tk := tVar 4) (tv := tMulV K "id_images" 4) rfl scM.nd (pi_keys (pe_fld (pv 0) rfl)) (blkOk_by (own := [("name", 4)]) (N := ["self", "other", "nets", "net", "name"]) (sc := defScope sMul) (by decide +kernel))
        (fun _ _ _ _ _ => pg_name (i := 4) scM.nd rfl (Or.inl rfl)) (fun _ _ _ _ _ => pts_nil) (fun _ _ _ _ _ => pv 4) (fun _ _ _ _ _ => pe_dget hu (pe_fld (pv 1) rfl) (pe_dget hu (pe_fld (pv 0) rfl) (pv 4) (fun _ _ => rfl)) (fun _ _ => rfl)))) pa_nil)))))), ?_⟩
    have M0 := M
    have N0 := N
    obtain ⟨⟨dy, e1, e2, l', ts', i1, i2, i3, i4, i5⟩, g3, g4⟩ := N
    refine ⟨_, rfl, q, dy, _, rfl, i1, _, rfl, iteF ?_⟩
    refine ⟨_, rfl, _, rfl, p, q, m1, m2, n1, n2, rfl, M0, N0, fun H1 s1 => ?_⟩
    rw [fitB_of p1 p2]
    refine ⟨_, rfl, iteF ?_⟩
    have sub1 : ∀ v ∈ vals m1, v ∈ keys n1 := fun v hv => p1.mem_iff.mp hv
    have sub2 : ∀ v ∈ vals m2, v ∈ keys n2 := fun v hv => p2.mem_iff.mp hv
    obtain ⟨⟨dx, d1, d2, l, ts, h1, h2, h3, h4, h5⟩, g1, g2⟩ := M
    -- nets = {..}
    refine ⟨d1, _, s1 _ _ h2, trivial, fun od => ?_⟩
    have pd : p ≠ d1 := ne_of h1 h2 (by intro z; cases z)
    have qd : q ≠ d1 := ne_of i1 h2 (by intro z; cases z)
    refine ⟨_, rfl, p, C, dx, _, _, rfl, by rw [upd_ne pd]; exact s1 _ _ h1, T.cl, T.nN, flds_n _ _ _, d1, od, rfl, .inl ⟨dS m1, upd_same, fun D hD => ?_⟩⟩
    have hDd : D ≠ d1 := fun z => by rw [z, upd_same] at hD; cases hD
    have hD' : H1 D = none := by rw [upd_ne hDd] at hD; exact hD
    have len1 : m1.length < 64 := g1.2.2
    have len2 : m2.length < 64 := g2.2.2
    refine dcA (walk_keys (d := d1) (o := od) (kvs := dS m1)) (fun i => dS ((comp m1 n1).take i)) (by simp [dS]) (fun i hi => small1000 (by rw [dS_length, List.length_take]; unfold comp; rw [List.length_map]; omega)) (fun acc => by rw [upd_ne (Ne.symm hDd), upd_same]) (fun i x H' hi hY => ?_) ?_
    · obtain ⟨rfl, kk, v, e, rfl⟩ := hY
      obtain ⟨a, b, hab, rfl, rfl⟩ := getD e
      have mem : (a, b) ∈ m1 := List.mem_of_getElem? hab
      have lk1 : m1.lookup a = some b := lookup_of g1.1 mem
      have lk2 : n1.lookup b = some (img n1 b) := lookup_img (sub1 b (List.mem_map.mpr ⟨(a, b), mem, rfl⟩))
      refine ⟨rfl, fun R hR => ⟨rfl, _, rfl, _, rfl, q, C, dy, flds e1 e2 l', _, rfl, ?_, T.cl, T.nN, flds_n _ _ _, _, rfl, p, C, dx, flds d1 d2 l, _, rfl, ?_, T.cl, T.nN, flds_n _ _ _, _, rfl, d1, _, rfl, dget_R (rd_frz (s1 _ _ h2) (s1 _ _ h2) hD') lk1, e1, _, rfl, dget_R (rd_frz (s1 _ _ h2) (s1 _ _ i2) hD') lk2, ?_⟩⟩
      · rw [upd_ne (ne_of_none (s1 _ _ i1) hD'), upd_ne qd]; exact s1 _ _ i1
      · rw [upd_ne (ne_of_none (s1 _ _ h1) hD'), upd_ne pd]; exact s1 _ _ h1
      · refine hR (Sum.inr a) (.str (img n1 b)) ?_
        rw [dS_comp_take, dS_comp_take]
        exact putK_map (fun p => (Sum.inr p.1 : Key)) (fun p => V.str (img n1 p.2)) (by have := nodup_inr g1.1; rw [List.map_map] at this; exact this) hab
    · refine ⟨by rw [upd_ne (Ne.symm hDd), upd_same], ?_⟩
      rw [lock_back (s1 _ _ h2) hDd]
      have ec : (comp m1 n1).take (dS m1).length = comp m1 n1 := List.take_of_length_le (by rw [dS_length]; unfold comp; rw [List.length_map]; exact Nat.le_refl _)
      rw [ec]
      generalize hH2 : upd H1 D (.dK (dS (comp m1 n1))) = H2
      have s12 : Same H1 H2 := by rw [← hH2]; exact Same.put hD'
      have s02 : Same H H2 := s1.trans s12
      have hD2 : H2 D = some (.dK (dS (comp m1 n1))) := by rw [← hH2]; exact upd_same
      -- the ids
      refine ⟨_, rfl, d2, _, s02 _ _ h3, trivial, fun od2 => ?_⟩
      have pd2 : p ≠ d2 := ne_of h1 h3 (by intro z; cases z)
      have qd2 : q ≠ d2 := ne_of i1 h3 (by intro z; cases z)
      refine ⟨_, rfl, p, C, dx, _, _, rfl, by rw [upd_ne pd2]; exact s02 _ _ h1, T.cl, T.nI, flds_i _ _ _, d2, od2, rfl, .inl ⟨dS m2, upd_same, fun D2 hD3 => ?_⟩⟩
      have hDd2 : D2 ≠ d2 := fun z => by rw [z, upd_same] at hD3; cases hD3
      have hD3' : H2 D2 = none := by rw [upd_ne hDd2] at hD3; exact hD3
      refine dcA (walk_keys (d := d2) (o := od2) (kvs := dS m2)) (fun i => dS ((comp m2 n2).take i)) (by simp [dS]) (fun i hi => small1000 (by rw [dS_length, List.length_take]; unfold comp; rw [List.length_map]; omega)) (fun acc => by rw [upd_ne (Ne.symm hDd2), upd_same]) (fun i x H' hi hY => ?_) ?_
      · obtain ⟨rfl, kk, v, e, rfl⟩ := hY
        obtain ⟨a, b, hab, rfl, rfl⟩ := getD e
        have mem : (a, b) ∈ m2 := List.mem_of_getElem? hab
        have lk1 : m2.lookup a = some b := lookup_of g2.1 mem
        have lk2 : n2.lookup b = some (img n2 b) := lookup_img (sub2 b (List.mem_map.mpr ⟨(a, b), mem, rfl⟩))
        refine ⟨rfl, fun R hR => ⟨rfl, _, rfl, _, rfl, q, C, dy, flds e1 e2 l', _, rfl, ?_, T.cl, T.nI, flds_i _ _ _, _, rfl, p, C, dx, flds d1 d2 l, _, rfl, ?_, T.cl, T.nI, flds_i _ _ _, _, rfl, d2, _, rfl, dget_R (rd_frz (s02 _ _ h3) (s02 _ _ h3) hD3') lk1, e2, _, rfl, dget_R (rd_frz (s02 _ _ h3) (s02 _ _ i3) hD3') lk2, ?_⟩⟩
        · rw [upd_ne (ne_of_none (s02 _ _ i1) hD3'), upd_ne qd2]; exact s02 _ _ i1
        · rw [upd_ne (ne_of_none (s02 _ _ h1) hD3'), upd_ne pd2]; exact s02 _ _ h1
        · refine hR (Sum.inr a) (.str (img n2 b)) ?_
          rw [dS_comp_take, dS_comp_take]
          exact putK_map (fun p => (Sum.inr p.1 : Key)) (fun p => V.str (img n2 p.2)) (by have := nodup_inr g2.1; rw [List.map_map] at this; exact this) hab
      · refine ⟨by rw [upd_ne (Ne.symm hDd2), upd_same], ?_⟩
        rw [lock_back (s02 _ _ h3) hDd2]
        have ec2 : (comp m2 n2).take (dS m2).length = comp m2 n2 := List.take_of_length_le (by rw [dS_length]; unfold comp; rw [List.length_map]; exact Nat.le_refl _)
        rw [ec2]
        generalize hH3 : upd H2 D2 (.dK (dS (comp m2 n2))) = H3
        have s23 : Same H2 H3 := by rw [← hH3]; exact Same.put hD3'
        have hD4 : H3 D2 = some (.dK (dS (comp m2 n2))) := by rw [← hH3]; exact upd_same
        -- Matching(nets, ..)
        intro r dr hr3 hdr hne
        have s34 : Same H3 (upd (upd H3 dr (.own r)) r (.ins C dr [])) := Same.new (Same.put hdr) (by rw [upd_ne (Ne.symm hne)]; exact hr3)
        refine ⟨r, dr, D, D2, comp m1 n1, comp m2 n2, rfl, upd_same, s34 _ _ (s23 _ _ hD2), s34 _ _ hD4, g1.comp g3 sub1, g2.comp g4 sub2, fun H' kp NA => ⟨rfl, ?_⟩⟩
        have s03 : Same H H3 := s02.trans s23
        refine k r H' (fun b o e => kp b o (s34 _ _ (s03 _ _ e)) (ne_of_none (s03 _ _ e) hr3)) (s03.free hr3) (NA H' fun _ _ e _ => e)
end
end WW
namespace WW
open PySem PySem.Spec PyProof.Rows L2
section
variable {P : Program} {w : World} {K : PySem.W.Frag} {mg : Str → Option Value} {base : Heap} {f C : Addr} {fd : FuncData}
def spInv (C : Addr) : Sp := fun vs H Q _ => ∃ (p : Addr) (m1 m2 : SM), vs = [.ref p] ∧ MatchAt C H p m1 m2 ∧ ∀ r H', Same H H' → H r = none → MatchAt C H' r (inv m1) (inv m2) → Q (.ref r) H'
theorem scV : FnScope ["self", "nets", "net", "name"] ["self"] (defScope sInv) := ⟨rfl, rfl, rfl, by decide +kernel, rfl, by decide +kernel, by decide +kernel⟩
theorem dS_inv_take (m : SM) (i : Nat) : dS ((inv m).take i) = (m.take i).map fun p => ((Sum.inr p.2 : Key), V.str p.1) := by
  unfold dS inv
  rw [← List.map_take, List.map_map]
  rfl
theorem inv_len (m : SM) : (inv m).length = m.length := List.length_map _
theorem ok_inv {fN : Addr} {fdN : FuncData} (F : Fun K "__invert__" "Matching.__invert__" sInv f fd) (T : MTxt K mg C) (B : Blt mg)
    (GN : FnOk P w K mg base CX0 3 fN fdN ["self", "nets", "ids"] (spInit C)) (bN : L2.Binds K fdN ["self", "nets", "ids"] []) (MK : Mk K C fN) : FnOk P w K mg base CX0 5 f fd ["self"] (spInv C) := by
  refine F.ok scV (fun vs H Q E h => ?_) (fun cdv A outer s H vs Q E hr h => ?_)
  · obtain ⟨p, m1, m2, rfl, _⟩ := h
    rfl
  · obtain ⟨p, m1, m2, rfl, M, k⟩ := h
    have hu := hu_of hr
    refine ⟨_, pss_cons (ps_lock (ps_setDc (i := 1) (own := [("net", 2)]) (g := gName 2) (tt := tYes) (tk := tDGet (tFld K (tVar 0) "net_images") (tVar 2)) (tv := tVar 2) rfl scV.nd rfl rfl (swD_true rfl rfl rfl (by decide +kernel)) (pi_keys (pe_fld (pv 0) rfl)) (blkOk_by (own := [("net", 2)]) (N := ["self", "nets", "net", "name"]) (sc := defScope sInv) (by decide +kernel))
        (fun _ _ _ _ _ => pg_name (i := 2) scV.nd rfl (Or.inl rfl)) (fun _ _ _ _ _ => pts_nil) (fun _ _ _ _ _ => pe_dget hu (pe_fld (pv 0) rfl) (pv 2) (fun _ _ => rfl)) (fun _ _ _ _ _ => pv 2)))
      (pss_one (ps_ret (pe_make MK GN hr (by rfl) T.mgC bN .nil pass0 (pa_cons (pv 1) (pa_cons (pe_lock (pe_dc (own := [("name", 3)]) (g := gName 3) (tt := tYes) (tk := tDGet (tFld K (tVar 0) "id_images") (tVar 3)) (tv := tVar 3) rfl scV.nd (pi_keys (pe_fld (pv 0) rfl)) (blkOk_by (own := [("name", 3)]) (N := ["self", "nets", "net", "name"]) (sc := defScope sInv) (by decide +kernel))
        (fun _ _ _ _ _ => pg_name (i := 3) scV.nd rfl (Or.inl rfl)) (fun _ _ _ _ _ => pts_nil) (fun _ _ _ _ _ => pe_dget hu (pe_fld (pv 0) rfl) (pv 3) (fun _ _ => rfl)) (fun _ _ _ _ _ => pv 3))) pa_nil))))), ?_⟩
    obtain ⟨⟨dx, d1, d2, l, ts, h1, h2, h3, h4, h5⟩, g1, g2⟩ := M
    refine ⟨d1, _, h2, trivial, fun od => ?_⟩
    have pd : p ≠ d1 := ne_of h1 h2 (by intro z; cases z)
    refine ⟨_, rfl, p, C, dx, _, _, rfl, by rw [upd_ne pd]; exact h1, T.cl, T.nN, flds_n _ _ _, d1, od, rfl, .inl ⟨dS m1, upd_same, fun D hD => ?_⟩⟩
    have hDd : D ≠ d1 := fun z => by rw [z, upd_same] at hD; cases hD
    have hD' : H D = none := by rw [upd_ne hDd] at hD; exact hD
    have len1 : m1.length < 64 := g1.2.2
    have len2 : m2.length < 64 := g2.2.2
    refine dcA (walk_keys (d := d1) (o := od) (kvs := dS m1)) (fun i => dS ((inv m1).take i)) (by simp [dS]) (fun i hi => small1000 (by rw [dS_length, List.length_take, inv_len]; omega)) (fun acc => by rw [upd_ne (Ne.symm hDd), upd_same]) (fun i x H' hi hY => ?_) ?_
    · obtain ⟨rfl, kk, v, e, rfl⟩ := hY
      obtain ⟨a, b, hab, rfl, rfl⟩ := getD e
      have mem : (a, b) ∈ m1 := List.mem_of_getElem? hab
      have lk1 : m1.lookup a = some b := lookup_of g1.1 mem
      refine ⟨rfl, fun R hR => ⟨rfl, _, rfl, p, C, dx, flds d1 d2 l, _, rfl, ?_, T.cl, T.nN, flds_n _ _ _, _, rfl, d1, _, rfl, dget_R (rd_frz h2 h2 hD') lk1, _, rfl, ?_⟩⟩
      · rw [upd_ne (ne_of_none h1 hD'), upd_ne pd]; exact h1
      · refine hR (Sum.inr b) (.str a) ?_
        rw [dS_inv_take, dS_inv_take]
        exact putK_map (fun p => (Sum.inr p.2 : Key)) (fun p => V.str p.1) (by have := nodup_inr g1.2.1; rw [List.map_map] at this; exact this) hab
    · refine ⟨by rw [upd_ne (Ne.symm hDd), upd_same], ?_⟩
      rw [lock_back h2 hDd]
      have ec : (inv m1).take (dS m1).length = inv m1 := List.take_of_length_le (by rw [dS_length, inv_len]; exact Nat.le_refl _)
      rw [ec]
      generalize hH2 : upd H D (.dK (dS (inv m1))) = H2
      have s02 : Same H H2 := by rw [← hH2]; exact Same.put hD'
      have hD2 : H2 D = some (.dK (dS (inv m1))) := by rw [← hH2]; exact upd_same
      refine ⟨_, rfl, d2, _, s02 _ _ h3, trivial, fun od2 => ?_⟩
      have pd2 : p ≠ d2 := ne_of h1 h3 (by intro z; cases z)
      refine ⟨_, rfl, p, C, dx, _, _, rfl, by rw [upd_ne pd2]; exact s02 _ _ h1, T.cl, T.nI, flds_i _ _ _, d2, od2, rfl, .inl ⟨dS m2, upd_same, fun D2 hD3 => ?_⟩⟩
      have hDd2 : D2 ≠ d2 := fun z => by rw [z, upd_same] at hD3; cases hD3
      have hD3' : H2 D2 = none := by rw [upd_ne hDd2] at hD3; exact hD3
      refine dcA (walk_keys (d := d2) (o := od2) (kvs := dS m2)) (fun i => dS ((inv m2).take i)) (by simp [dS]) (fun i hi => small1000 (by rw [dS_length, List.length_take, inv_len]; omega)) (fun acc => by rw [upd_ne (Ne.symm hDd2), upd_same]) (fun i x H' hi hY => ?_) ?_
      · obtain ⟨rfl, kk, v, e, rfl⟩ := hY
        obtain ⟨a, b, hab, rfl, rfl⟩ := getD e
        have mem : (a, b) ∈ m2 := List.mem_of_getElem? hab
        have lk1 : m2.lookup a = some b := lookup_of g2.1 mem
        refine ⟨rfl, fun R hR => ⟨rfl, _, rfl, p, C, dx, flds d1 d2 l, _, rfl, ?_, T.cl, T.nI, flds_i _ _ _, _, rfl, d2, _, rfl, dget_R (rd_frz (s02 _ _ h3) (s02 _ _ h3) hD3') lk1, _, rfl, ?_⟩⟩
        · rw [upd_ne (ne_of_none (s02 _ _ h1) hD3'), upd_ne pd2]; exact s02 _ _ h1
        · refine hR (Sum.inr b) (.str a) ?_
          rw [dS_inv_take, dS_inv_take]
          exact putK_map (fun p => (Sum.inr p.2 : Key)) (fun p => V.str p.1) (by have := nodup_inr g2.2.1; rw [List.map_map] at this; exact this) hab
      · refine ⟨by rw [upd_ne (Ne.symm hDd2), upd_same], ?_⟩
        rw [lock_back (s02 _ _ h3) hDd2]
        have ec2 : (inv m2).take (dS m2).length = inv m2 := List.take_of_length_le (by rw [dS_length, inv_len]; exact Nat.le_refl _)
        rw [ec2]
        generalize hH3 : upd H2 D2 (.dK (dS (inv m2))) = H3
        have s23 : Same H2 H3 := by rw [← hH3]; exact Same.put hD3'
        have hD4 : H3 D2 = some (.dK (dS (inv m2))) := by rw [← hH3]; exact upd_same
        intro r dr hr3 hdr hne
        have s34 : Same H3 (upd (upd H3 dr (.own r)) r (.ins C dr [])) := Same.new (Same.put hdr) (by rw [upd_ne (Ne.symm hne)]; exact hr3)
        refine ⟨r, dr, D, D2, inv m1, inv m2, rfl, upd_same, s34 _ _ (s23 _ _ hD2), s34 _ _ hD4, g1.inv, g2.inv, fun H' kp NA => ⟨rfl, ?_⟩⟩
        have s03 : Same H H3 := s02.trans s23
        exact k r H' (fun b o e => kp b o (s34 _ _ (s03 _ _ e)) (ne_of_none (s03 _ _ e) hr3)) (s03.free hr3) (NA H' fun _ _ e _ => e)
/-! ### ==, iter -/
def spEqM (C : Addr) : Sp := fun vs H Q _ => ∃ (p q : Addr) (m1 m2 n1 n2 : SM), vs = [.ref p, .ref q] ∧ MatchAt C H p m1 m2 ∧ MatchAt C H q n1 n2 ∧ Q (.bl (dEq m1 n1 && dEq m2 n2)) H
def spEqD (C : Addr) : Sp := fun vs H Q _ => ∃ (p d : Addr) (m1 m2 n : SM), vs = [.ref p, .ref d] ∧ MatchAt C H p m1 m2 ∧ H d = some (.dK (dS n)) ∧ Q (.bl false) H
theorem scE : FnScope ["self", "other"] ["self", "other"] (defScope sEq) := ⟨rfl, rfl, rfl, by decide +kernel, rfl, by decide +kernel, by decide +kernel⟩
theorem ok_eqM (F : Fun K "__eq__" "Matching.__eq__" sEq f fd) (T : MTxt K mg C) (B : Blt mg) : FnOk P w K mg base CX0 1 f fd ["self", "other"] (spEqM C) := by
  refine F.ok scE (fun vs H Q E h => ?_) (fun cdv A outer s H vs Q E hr h => ?_)
  · obtain ⟨p, q, m1, m2, n1, n2, rfl, _⟩ := h
    rfl
  · obtain ⟨p, q, m1, m2, n1, n2, rfl, M, N, k⟩ := h
    have hu : _ < _ := hr.units0
    obtain ⟨⟨dx, d1, d2, l, ts, h1, h2, h3, h4, h5⟩, g1, g2⟩ := M
    obtain ⟨⟨dy, e1, e2, l', ts', i1, i2, i3, i4, i5⟩, g3, g4⟩ := N
    refine ⟨_, pss_one (ps_ret (pe_and (pe_callB (C8.call_isC T.ins) (by rfl) B.isinstance (by decide +kernel) (pa_cons (pv 1) (pa_cons (pe_glob (v := .ref C) rfl T.mgC rfl) pa_nil))) (pe_and (pe_cmpR (op_eqDS hu) (pe_fld (pv 0) rfl) (pe_fld (pv 1) rfl) (nomark _)) (pe_one (pe_cmpR (op_eqDS hu) (pe_fld (pv 0) rfl) (pe_fld (pv 1) rfl) (nomark _)))))), ?_⟩
    refine ⟨_, rfl, q, dy, _, rfl, i1, _, rfl, iteT ?_⟩
    refine ⟨_, rfl, p, C, dx, _, _, rfl, h1, T.cl, T.nN, flds_n _ _ _, _, rfl, q, C, dy, _, _, rfl, i1, T.cl, T.nN, flds_n _ _ _, d1, e1, m1, n1, rfl, rfl, h2, i2, _, rfl, ?_⟩
    cases hb : dEq m1 n1 with
    | false =>
      rw [hb, Bool.false_and] at k
      exact iteF k
    | true =>
      rw [hb, Bool.true_and] at k
      exact iteT ⟨_, rfl, p, C, dx, _, _, rfl, h1, T.cl, T.nI, flds_i _ _ _, _, rfl, q, C, dy, _, _, rfl, i1, T.cl, T.nI, flds_i _ _ _, d2, e2, m2, n2, rfl, rfl, h3, i3, k⟩
theorem ok_eqD (F : Fun K "__eq__" "Matching.__eq__" sEq f fd) (T : MTxt K mg C) (B : Blt mg) : FnOk P w K mg base CX0 1 f fd ["self", "other"] (spEqD C) := by
  refine F.ok scE (fun vs H Q E h => ?_) (fun cdv A outer s H vs Q E hr h => ?_)
  · obtain ⟨p, q, m1, m2, n, rfl, _⟩ := h
    rfl
  · obtain ⟨p, d, m1, m2, n, rfl, M, hd, k⟩ := h
    have hu : _ < _ := hr.units0
    refine ⟨_, pss_one (ps_ret (pe_and (pe_callB call_isi (by rfl) B.isinstance (by decide +kernel) (pa_cons (pv 1) (pa_cons (pe_glob (v := .ref C) rfl T.mgC rfl) pa_nil))) (pe_and (pe_cmpR (op_eqDS hu) (pe_fld (pv 0) rfl) (pe_fld (pv 1) rfl) (nomark _)) (pe_one (pe_cmpR (op_eqDS hu) (pe_fld (pv 0) rfl) (pe_fld (pv 1) rfl) (nomark _)))))), ?_⟩
    exact ⟨_, rfl, _, _, _, _, false, rfl, .own C, .base (.dK hd), T.kD, _, rfl, iteF k⟩
def PiM (C : Addr) (H : Hp) (a l : Addr) : Prop := ∃ (dx d1 d2 : Addr) (xs : List V), H a = some (.ins C dx (flds d1 d2 l)) ∧ H l = some (.lst xs)
theorem scT : FnScope ["self"] ["self"] (defScope sIter) := ⟨rfl, rfl, rfl, by decide +kernel, rfl, by decide +kernel, by decide +kernel⟩
theorem iter_body (T : MTxt K mg C) (B : Blt mg) {g : Addr} (cdv : Value) (A : Around) (outer : List Env) (s : Shared) (H : Hp) (a l : Addr) (Q : VK) (hp : PiM C H a l) (hq : ∀ it, H it = none → s.heap.objs.size ≤ it → Q (.ref it) (upd H it (ItO l it 0))) :
    ∃ t, PSs (cxOf CX0 P w K mg base ["self"] "Matching.__iter__" (defScope sIter) g cdv A outer s H E0).nox (defBody sIter) t ∧ t { nx := fun _ H' => Q .non H', rt := Q } (start ["self"] [.ref a]) H := by
  obtain ⟨dx, d1, d2, xs, h1, h2⟩ := hp
  refine ⟨_, pss_one (ps_ret (pe_callB ItX.call_iterN (by rfl) B.iter (by decide +kernel) (pa_cons (pe_fld (pv 0) rfl) pa_nil))), ?_⟩
  exact ⟨_, rfl, a, C, dx, _, _, rfl, h1, T.cl, T.nP, flds_p _ _ _, l, xs, rfl, SqL.of h2, fun it hn hz => hq it hn hz⟩
end
end WW
namespace WW
open PySem PySem.Spec PyProof.Rows L2
def idB (m : SM) : Bool := m.all fun p => decide (p.2 = p.1)
def spIsId (C : Addr) : Sp := fun vs H Q _ => ∃ (p : Addr) (m1 m2 : SM), vs = [.ref p] ∧ MatchAt C H p m1 m2 ∧ ∀ H', Same H H' → Q (.bl (idB m1 && idB m2)) H'
section
variable {P : Program} {w : World} {K : PySem.W.Frag} {mg : Str → Option Value} {base : Heap} {f C : Addr} {fd : FuncData}
theorem scX : FnScope ["self", "nets", "ids", "net", "name"] ["self"] (defScope sIsId) := ⟨rfl, rfl, rfl, by decide +kernel, rfl, by decide +kernel, by decide +kernel⟩
theorem ok_isId (F : Fun K "is_identity" "Matching.is_identity" sIsId f fd) (T : MTxt K mg C) (B : Blt mg) : FnOk P w K mg base CX0 1 f fd ["self"] (spIsId C) := by
  refine F.ok scX (fun vs H Q E h => ?_) (fun cdv A outer s H vs Q E hr h => ?_)
  · obtain ⟨p, m1, m2, rfl, _⟩ := h
    rfl
  · obtain ⟨p, m1, m2, rfl, M, k⟩ := h
    have hu := hu_of hr
    obtain ⟨⟨dx, d1, d2, l, ts, h1, h2, h3, h4, h5⟩, g1, g2⟩ := M
    refine ⟨_, pss_cons (ps_asg (pe_tup (pa_cons (pe_fld (pv 0) rfl) (pa_cons (pe_fld (pv 0) rfl) pa_nil))) (pg_tup (by rfl) (pgs_cons (pg_name (i := 1) scX.nd rfl (Or.inr rfl)) (pgs_cons (pg_name (i := 2) scX.nd rfl (Or.inr rfl)) pgs_nil))))
      (pss_one (ps_ret (pe_and (pe_callB (cr_all rfl) (by rfl) B.all (by decide +kernel) (pa_cons (pe_lock (pe_lc (own := [("net", 3)]) (g := gName 3) (tt := tYes) rfl scX.nd (pi_keys (pv 1)) (blkOk_by (own := [("net", 3)]) (N := ["self", "nets", "ids", "net", "name"]) (sc := defScope sIsId) (by decide +kernel))
          (fun _ _ _ _ _ => pg_name (i := 3) scX.nd rfl (Or.inl rfl)) (fun _ _ _ _ _ => pts_nil) (fun _ _ _ _ _ => pe_cmpR op_eq (pe_dget hu (pv 1) (pv 3) (fun _ _ => rfl)) (pv 3) (nomark _)))) pa_nil))
        (pe_one (pe_callB (cr_all rfl) (by rfl) B.all (by decide +kernel) (pa_cons (pe_lock (pe_lc (own := [("name", 4)]) (g := gName 4) (tt := tYes) rfl scX.nd (pi_keys (pv 2)) (blkOk_by (own := [("name", 4)]) (N := ["self", "nets", "ids", "net", "name"]) (sc := defScope sIsId) (by decide +kernel))
          (fun _ _ _ _ _ => pg_name (i := 4) scX.nd rfl (Or.inl rfl)) (fun _ _ _ _ _ => pts_nil) (fun _ _ _ _ _ => pe_cmpR op_eq (pe_dget hu (pv 2) (pv 4) (fun _ _ => rfl)) (pv 4) (nomark _)))) pa_nil)))))), ?_⟩
    refine ⟨_, rfl, p, C, dx, _, _, rfl, h1, T.cl, T.nN, flds_n _ _ _, _, rfl, p, C, dx, _, _, rfl, h1, T.cl, T.nI, flds_i _ _ _, by show 2 ≤ sizeLine; decide, fun t ht => ?_⟩
    generalize hH1 : upd H t (.tup [V.ref d1, V.ref d2]) = H1
    have s1 : Same H H1 := by rw [← hH1]; exact Same.put ht
    have ht1 : H1 t = some (.tup [V.ref d1, V.ref d2]) := by rw [← hH1]; exact upd_same
    refine ⟨t, _, rfl, SqT.of ht1, rfl, _, _, rfl, _, _, rfl, rfl, ?_⟩
    refine ⟨d1, _, s1 _ _ h2, trivial, fun od => ?_⟩
    refine ⟨_, rfl, d1, od, rfl, .inl ⟨dS m1, upd_same, fun D hD => ?_⟩⟩
    have hDd : D ≠ d1 := fun z => by rw [z, upd_same] at hD; cases hD
    have hD' : H1 D = none := by rw [upd_ne hDd] at hD; exact hD
    have len1 : m1.length < 64 := g1.2.2
    have len2 : m2.length < 64 := g2.2.2
    refine lcM (walk_keys (d := d1) (o := od) (kvs := dS m1)) ((m1.map fun p => decide (p.2 = p.1)).map V.bl) (by simp [dS_length]) (by rw [dS_length]; omega) (fun acc => by rw [upd_ne (Ne.symm hDd), upd_same]) (fun i x y acc H' hy hY => ?_) ?_
    · obtain ⟨rfl, kk, v, e, rfl⟩ := hY
      obtain ⟨a, b, hab, rfl, rfl⟩ := getD e
      rw [List.getElem?_map, List.getElem?_map, hab] at hy
      cases hy
      have lk1 : m1.lookup a = some b := lookup_of g1.1 (List.mem_of_getElem? hab)
      refine ⟨rfl, fun R hR => ⟨rfl, _, rfl, _, rfl, d1, _, rfl, dget_R (rd_frz (s1 _ _ h2) (s1 _ _ h2) hD') lk1, _, rfl, rfl, ?_⟩⟩
      have : decide (V.str b = kV (Sum.inr a : Key)) = decide (b = a) := by rw [Bool.eq_iff_iff]; simp [kV]
      rw [this]
      exact hR
    · refine ⟨by rw [upd_ne (Ne.symm hDd), upd_same], ?_⟩
      rw [lock_back (s1 _ _ h2) hDd]
      refine ⟨D, _, rfl, SqL.of upd_same, _, rfl, ?_⟩
      have e1 : (m1.map fun p => decide (p.2 = p.1)).all id = idB m1 := by unfold idB; rw [List.all_map]; rfl
      rw [e1]
      generalize hH2 : upd H1 D (.lst ((m1.map fun p => decide (p.2 = p.1)).map V.bl)) = H2
      have s2 : Same H H2 := by rw [← hH2]; exact Same.new s1 hD'
      cases hb : idB m1 with
      | false =>
        refine iteF ?_
        have := k H2 s2
        rw [hb, Bool.false_and] at this
        exact this
      | true =>
        refine iteT ?_
        refine ⟨d2, _, s2 _ _ h3, trivial, fun od2 => ?_⟩
        refine ⟨_, rfl, d2, od2, rfl, .inl ⟨dS m2, upd_same, fun D2 hD2 => ?_⟩⟩
        have hDd2 : D2 ≠ d2 := fun z => by rw [z, upd_same] at hD2; cases hD2
        have hD2' : H2 D2 = none := by rw [upd_ne hDd2] at hD2; exact hD2
        refine lcM (walk_keys (d := d2) (o := od2) (kvs := dS m2)) ((m2.map fun p => decide (p.2 = p.1)).map V.bl) (by simp [dS_length]) (by rw [dS_length]; omega) (fun acc => by rw [upd_ne (Ne.symm hDd2), upd_same]) (fun i x y acc H' hy hY => ?_) ?_
        · obtain ⟨rfl, kk, v, e, rfl⟩ := hY
          obtain ⟨a, b, hab, rfl, rfl⟩ := getD e
          rw [List.getElem?_map, List.getElem?_map, hab] at hy
          cases hy
          have lk1 : m2.lookup a = some b := lookup_of g2.1 (List.mem_of_getElem? hab)
          refine ⟨rfl, fun R hR => ⟨rfl, _, rfl, _, rfl, d2, _, rfl, dget_R (rd_frz (s2 _ _ h3) (s2 _ _ h3) hD2') lk1, _, rfl, rfl, ?_⟩⟩
          have : decide (V.str b = kV (Sum.inr a : Key)) = decide (b = a) := by rw [Bool.eq_iff_iff]; simp [kV]
          rw [this]
          exact hR
        · refine ⟨by rw [upd_ne (Ne.symm hDd2), upd_same], ?_⟩
          rw [lock_back (s2 _ _ h3) hDd2]
          refine ⟨D2, _, rfl, SqL.of upd_same, ?_⟩
          have e2 : (m2.map fun p => decide (p.2 = p.1)).all id = idB m2 := by unfold idB; rw [List.all_map]; rfl
          rw [e2]
          have := k _ (Same.new (o := .lst ((m2.map fun p => decide (p.2 = p.1)).map V.bl)) s2 hD2')
          rw [hb, Bool.true_and] at this
          exact this
end
end WW
namespace WW
open PySem PySem.Spec PyProof.Rows L2
abbrev sStart : Stmt := top 13
abbrev sDraw : Stmt := top 14
abbrev sNames : Stmt := top 15
abbrev sMap : Stmt := top 16
abbrev sThen : Stmt := top 17
abbrev sBack : Stmt := top 18
abbrev sHolds : Stmt := top 19
abbrev sFar : Stmt := top 20
abbrev sRefused : Stmt := top 21
abbrev sLaw : Stmt := top 22
abbrev sPower : Stmt := inClass (top 10) 8
abbrev sErr : Stmt := inClass (top 3) 0
/-- the draws' state at S, its numbers at L -/
structure StAt (H : Hp) (S L : Addr) : Prop where
  st : ∃ i r z : Int, H S = some (.lst [.ref L, .int i, .int r, .int z]) ∧ 0 ≤ i
  ls : ∃ zs : List Int, H L = some (.lst (zs.map V.int))
  ne : L ≠ S
/-- all but S is as it was -/
def SameBut (S : Addr) (H H' : Hp) : Prop := ∀ b o, H b = some o → b ≠ S → H' b = some o
theorem SameBut.trans {S : Addr} {H H1 H2 : Hp} (a : SameBut S H H1) (b : SameBut S H1 H2) : SameBut S H H2 := fun c o h n => b c o (a c o h n) n
theorem SameBut.of {S : Addr} {H H1 : Hp} (a : Same H H1) : SameBut S H H1 := fun c o h _ => a c o h
theorem StAt.same {H H' : Hp} {S L : Addr} (T : StAt H S L) (s : Same H H') : StAt H' S L := by
  obtain ⟨⟨i, r, z, h, hi⟩, ⟨zs, h2⟩, ne⟩ := T
  exact ⟨⟨i, r, z, s _ _ h, hi⟩, ⟨zs, s _ _ h2⟩, ne⟩
theorem StAt.set {H : Hp} {S L : Addr} (T : StAt H S L) {i r z : Int} (hi : 0 ≤ i) : StAt (upd H S (.lst [.ref L, .int i, .int r, .int z])) S L := by
  obtain ⟨_, ⟨zs, h2⟩, ne⟩ := T
  exact ⟨⟨i, r, z, upd_same, hi⟩, ⟨zs, by rw [upd_ne ne]; exact h2⟩, ne⟩
theorem SameBut.set {H : Hp} {S : Addr} {o : HO} : SameBut S H (upd H S o) := fun b u e n => by rw [upd_ne n]; exact e
def spStart (K : PySem.W.Frag) : Sp := fun vs H Q _ => ∃ (a : Addr) (zs : List Int), vs = [.ref a] ∧ SqL K H a (zs.map V.int) ∧ ∀ S L H', Same H H' → H S = none → StAt H' S L → Q (.ref S) H'
def spDraw : Sp := fun vs H Q _ => ∃ (S L : Addr) (many : Int), vs = [.ref S, .int many] ∧ StAt H S L ∧ 0 < many ∧ many < 2 ^ 200 ∧
  ∀ d H', 0 ≤ d → d < many → StAt H' S L → SameBut S H H' → Q (.int d) H'
section
variable {P : Program} {w : World} {K : PySem.W.Frag} {mg : Str → Option Value} {base : Heap} {f C : Addr} {fd : FuncData}
theorem scSt : FnScope ["_law_script"] ["_law_script"] (defScope sStart) := ⟨rfl, rfl, rfl, by decide +kernel, rfl, by decide +kernel, by decide +kernel⟩
theorem ok_start (F : Fun K "_law_start" "_law_start" sStart f fd) (B : Blt mg) : FnOk P w K mg base CX0 1 f fd ["_law_script"] (spStart K) := by
  refine F.ok scSt (fun vs H Q E h => ?_) (fun cdv A outer s H vs Q E hr h => ?_)
  · obtain ⟨a, zs, rfl, _⟩ := h
    rfl
  · obtain ⟨a, zs, rfl, hS, k⟩ := h
    refine ⟨_, pss_one (ps_ret (pe_lst (pa_cons (pe_callTy call_list_of (by rfl) B.list (by decide +kernel) (pa_cons (pv 0) pa_nil)) (pa_cons pe_int (pa_cons pe_int (pa_cons pe_int pa_nil)))))), ?_⟩
    refine ⟨_, rfl, a, _, rfl, .inl hS, fun L hL => ⟨by show 4 ≤ sizeLine; decide, fun S hS2 => ?_⟩⟩
    have ne : L ≠ S := fun z => by rw [← z, upd_same] at hS2; cases hS2
    refine k S L _ (Same.new (Same.put hL) hS2) (Same.none (Same.put hL) hS2) ⟨⟨0, 0, 7, upd_same, Int.le_refl _⟩, ⟨zs, by rw [upd_ne ne, upd_same]⟩, ne⟩
theorem scDr : FnScope ["_law_state", "_law_many", "_law_digit", "_law_cell"] ["_law_state", "_law_many"] (defScope sDraw) := ⟨rfl, rfl, rfl, by decide +kernel, rfl, by decide +kernel, by decide +kernel⟩
theorem emod_range {a b : Int} (h : 0 < b) : 0 ≤ a % b ∧ a % b < b := ⟨Int.emod_nonneg _ (by omega), Int.emod_lt_of_pos _ h⟩
theorem ok_draw (F : Fun K "_law_draw" "_law_draw" sDraw f fd) (B : Blt mg) : FnOk P w K mg base CX0 1 f fd ["_law_state", "_law_many"] spDraw := by
  refine F.ok scDr (fun vs H Q E h => ?_) (fun cdv A outer s H vs Q E hr h => ?_)
  · obtain ⟨S, L, many, rfl, _⟩ := h
    rfl
  · obtain ⟨S, L, many, rfl, ST, hm, hm2, k⟩ := h
    obtain ⟨⟨i, r, z, hS, hi⟩, ⟨zs, hL⟩, ne⟩ := id ST
    refine ⟨_, pss_cons (ps_if (pt_cmpR op_gt (pe_ix ix_list (pv 0) pe_int (fun _ _ => rfl)) pe_int (nomark _))
        (pss_cons (ps_set (i := 2) scDr.nd rfl (Or.inl rfl) (pe_op op_mod (pe_callTy call_int1 (by rfl) B.int (by decide +kernel) (pa_cons (pe_ix ix_list (pv 0) pe_int (fun _ _ => rfl)) pa_nil)) (pv 1)))
        (pss_cons (ps_asg (pe_op op_fdivW (pe_ix ix_list (pv 0) pe_int (fun _ _ => rfl)) (pv 1)) (pg_sub (pv 0) pe_int set_list))
        (pss_one (ps_ret (pv 2))))) pss_nil)
      (pss_cons (ps_set (i := 3) scDr.nd rfl (Or.inl rfl) (pe_ifExp (pt_cmpR op_lt (pe_ix ix_list (pv 0) pe_int (fun _ _ => rfl)) (pe_callB call_len_seq (by rfl) B.len PySem.boot_len (pa_cons (pe_ix ix_list (pv 0) pe_int (fun _ _ => rfl)) pa_nil)) (nomark _))
          (pe_ix ix_list (pe_ix ix_list (pv 0) pe_int (fun _ _ => rfl)) (pe_ix ix_list (pv 0) pe_int (fun _ _ => rfl)) (fun _ _ => rfl)) pe_int))
      (pss_cons (ps_asg (pe_op op_add (pe_ix ix_list (pv 0) pe_int (fun _ _ => rfl)) pe_int) (pg_sub (pv 0) pe_int set_list))
      (pss_cons (ps_if (pt_cmpR op_ge (pv 3) (pe_op op_pow pe_int pe_int) (nomark _))
        (pss_cons (ps_asg (pe_op op_fdivW (pv 3) (pv 1)) (pg_sub (pv 0) pe_int set_list))
        (pss_one (ps_ret (pe_op op_mod (pe_callTy call_int1 (by rfl) B.int (by decide +kernel) (pa_cons (pv 3) pa_nil)) (pv 1))))) pss_nil)
      (pss_cons (ps_asg (pe_op op_mod (pe_callTy call_int1 (by rfl) B.int (by decide +kernel) (pa_cons (pe_op op_add (pe_op op_add (pe_op op_add (pe_op op_mul (pe_ix ix_list (pv 0) pe_int (fun _ _ => rfl)) pe_int) (pe_op op_mul (pv 3) pe_int)) (pe_op op_mul (pe_ix ix_list (pv 0) pe_int (fun _ _ => rfl)) pe_int)) pe_int) pa_nil)) pe_int) (pg_sub (pv 0) pe_int set_list))
      (pss_one (ps_ret (pe_op op_mod (pe_callTy call_int1 (by rfl) B.int (by decide +kernel) (pa_cons (pe_op op_mod (pe_callTy call_int1 (by rfl) B.int (by decide +kernel) (pa_cons (pe_op op_add (pe_op op_mul (pe_ix ix_list (pv 0) pe_int (fun _ _ => rfl)) pe_int) pe_int) pa_nil)) pe_int) pa_nil)) (pv 1)))))))), ?_⟩
    refine ⟨_, rfl, S, _, _, _, rfl, rfl, SqL.of hS, rfl, _, _, rfl, rfl, _, rfl, ?_⟩
    by_cases hr0 : (0 : Int) < r
    · rw [decide_eq_true hr0]
      refine iteT ?_
      refine ⟨_, rfl, S, _, _, _, rfl, rfl, SqL.of hS, rfl, .inl ⟨_, rfl, _, rfl, _, _, rfl, rfl, hm, ?_⟩⟩
      refine ⟨_, rfl, S, _, _, _, rfl, rfl, SqL.of hS, rfl, _, rfl, _, _, rfl, rfl, wide_div (b := 200) hm (by omega) (by decide) (by decide), _, rfl, S, _, _, 2, rfl, rfl, hS, rfl, ?_⟩
      refine ⟨_, rfl, ?_⟩
      exact k _ _ (emod_range hm).1 (emod_range hm).2 (ST.set hi) SameBut.set
    · rw [decide_eq_false hr0]
      refine iteF ?_
      refine ⟨_, rfl, S, _, _, _, rfl, rfl, SqL.of hS, rfl, _, rfl, S, _, _, _, rfl, rfl, SqL.of hS, rfl, L, _, rfl, .inl (SqL.of hL), _, _, rfl, rfl, _, rfl, ?_⟩
      refine ite2 (fun hlt => ?_) (fun hlt => ?_)
      · have h1 : i < ((zs.map V.int).length : Int) := of_decide_eq_true hlt
        have h2 : i.toNat < zs.length := by rw [List.length_map] at h1; omega
        refine ⟨_, rfl, S, _, _, _, rfl, rfl, SqL.of hS, rfl, _, rfl, S, _, _, _, rfl, rfl, SqL.of hS, rfl, L, _, i, .int zs[i.toNat], rfl, rfl, SqL.of hL, ?_, ?_⟩
        · have e : ((i.toNat : Nat) : Int) = i := by omega
          have := atI_nat (xs := zs.map V.int) (j := i.toNat) (v := .int zs[i.toNat]) (by simp [h2])
          rw [e] at this
          exact this
        · skip
          refine ⟨_, rfl, S, _, _, _, rfl, rfl, SqL.of hS, rfl, _, _, rfl, rfl, _, rfl, S, _, _, 1, rfl, rfl, hS, rfl, ?_⟩
          refine ⟨_, rfl, _, _, rfl, rfl, ⟨by decide, by decide, by decide⟩, _, _, rfl, rfl, _, rfl, ?_⟩
          refine ite2 (fun _ => ?_) (fun _ => ?_)
          · refine ⟨_, rfl, _, rfl, _, _, rfl, rfl, wide_div (b := 200) hm (by omega) (by decide) (by decide), _, rfl, S, _, _, 2, rfl, rfl, upd_same, rfl, ?_⟩
            refine ⟨_, rfl, .inl ⟨_, rfl, _, rfl, _, _, rfl, rfl, hm, ?_⟩⟩
            exact k _ _ (emod_range hm).1 (emod_range hm).2 ((ST.set (by omega)).set (by omega)) (SameBut.set.trans SameBut.set)
          · refine ⟨_, rfl, S, _, _, _, rfl, rfl, SqL.of upd_same, rfl, _, _, rfl, rfl, .inr ⟨by decide, by decide⟩, _, rfl, _, _, rfl, rfl, .inr ⟨by decide, by decide⟩, _, _, rfl, rfl, _, rfl, S, _, _, _, rfl, rfl, SqL.of upd_same, rfl, _, _, rfl, rfl, .inr ⟨by decide, by decide⟩, _, _, rfl, rfl, _, _, rfl, rfl,
              .inl ⟨_, rfl, _, _, rfl, rfl, (by show (0 : Int) < 2147483647; decide), _, rfl, S, _, _, 3, rfl, rfl, upd_same, rfl, ?_⟩⟩
            refine ⟨_, rfl, S, _, _, _, rfl, rfl, SqL.of upd_same, rfl, _, _, rfl, rfl, .inr ⟨by decide, by decide⟩, _, _, rfl, rfl, .inl ⟨_, rfl, _, _, rfl, rfl, (by show (0 : Int) < 2147483399; decide), .inl ⟨_, rfl, _, rfl, _, _, rfl, rfl, hm, ?_⟩⟩⟩
            exact k _ _ (emod_range hm).1 (emod_range hm).2 ((ST.set (by omega)).set (by omega)) (SameBut.set.trans SameBut.set)
      · skip
        refine ⟨_, rfl, S, _, _, _, rfl, rfl, SqL.of hS, rfl, _, _, rfl, rfl, _, rfl, S, _, _, 1, rfl, rfl, hS, rfl, ?_⟩
        refine ⟨_, rfl, _, _, rfl, rfl, ⟨by decide, by decide, by decide⟩, _, _, rfl, rfl, _, rfl, ?_⟩
        refine ite2 (fun _ => ?_) (fun _ => ?_)
        · refine ⟨_, rfl, _, rfl, _, _, rfl, rfl, wide_div (b := 200) hm (by omega) (by decide) (by decide), _, rfl, S, _, _, 2, rfl, rfl, upd_same, rfl, ?_⟩
          refine ⟨_, rfl, .inl ⟨_, rfl, _, rfl, _, _, rfl, rfl, hm, ?_⟩⟩
          exact k _ _ (emod_range hm).1 (emod_range hm).2 ((ST.set (by omega)).set (by omega)) (SameBut.set.trans SameBut.set)
        · refine ⟨_, rfl, S, _, _, _, rfl, rfl, SqL.of upd_same, rfl, _, _, rfl, rfl, .inr ⟨by decide, by decide⟩, _, rfl, _, _, rfl, rfl, .inr ⟨by decide, by decide⟩, _, _, rfl, rfl, _, rfl, S, _, _, _, rfl, rfl, SqL.of upd_same, rfl, _, _, rfl, rfl, .inr ⟨by decide, by decide⟩, _, _, rfl, rfl, _, _, rfl, rfl,
            .inl ⟨_, rfl, _, _, rfl, rfl, (by show (0 : Int) < 2147483647; decide), _, rfl, S, _, _, 3, rfl, rfl, upd_same, rfl, ?_⟩⟩
          refine ⟨_, rfl, S, _, _, _, rfl, rfl, SqL.of upd_same, rfl, _, _, rfl, rfl, .inr ⟨by decide, by decide⟩, _, _, rfl, rfl, .inl ⟨_, rfl, _, _, rfl, rfl, (by show (0 : Int) < 2147483399; decide), .inl ⟨_, rfl, _, rfl, _, _, rfl, rfl, hm, ?_⟩⟩⟩
          exact k _ _ (emod_range hm).1 (emod_range hm).2 ((ST.set (by omega)).set (by omega)) (SameBut.set.trans SameBut.set)
end
end WW
namespace WW
open PySem PySem.Spec PyProof.Rows L2
def num (j : Nat) : Str := Str.ofString (toString (j : Int))
def nm (l : Str) (j : Nat) : Str := l ++ num j
theorem num_inj : ∀ i < 49, ∀ j < 49, num i = num j → i = j := by decide +kernel
theorem num_len : ∀ i < 49, (num i).length ≤ 2 := by decide +kernel
theorem nm_inj {l : Str} {i j : Nat} (hi : i < 49) (hj : j < 49) (h : nm l i = nm l j) : i = j := by
  have e : (l ++ num i).cps = (l ++ num j).cps := congrArg Str.cps h
  have e2 : l.cps ++ (num i).cps = l.cps ++ (num j).cps := e
  have e3 : (num i).cps = (num j).cps := by
    have := congrArg Array.toList e2
    simp only [Array.toList_append, List.append_cancel_left_eq] at this
    exact Array.toList_inj.mp this
  exact num_inj i hi j hj (by
    cases h1 : num i; cases h2 : num j
    rw [h1, h2] at e3
    exact congrArg Str.mk e3)
theorem nm_ne {c d : Nat} (h : c ≠ d) (i j : Nat) : nm ⟨#[c]⟩ i ≠ nm ⟨#[d]⟩ j := fun e => by
  have e2 : #[c] ++ (num i).cps = #[d] ++ (num j).cps := congrArg Str.cps e
  have := congrArg Array.toList e2
  simp only [Array.toList_append, List.cons_append, List.nil_append, List.cons.injEq] at this
  exact h this.1
/-- the names that are drawn for a letter -/
def NamesOf (l : Str) (ns : List Str) : Prop := ns.length ≤ 7 ∧ ∀ (k : Nat) (x : Str), ns[k]? = some x → ∃ d : Nat, d < 7 ∧ x = nm l (7 * k + d)
theorem NamesOf.nodup {l : Str} {ns : List Str} (h : NamesOf l ns) : ns.Nodup := by
  refine List.pairwise_iff_getElem.mpr fun i j hi hj hij e => ?_
  obtain ⟨d, hd, h1⟩ := h.2 i ns[i] (by simp [hi])
  obtain ⟨d', hd', h2⟩ := h.2 j ns[j] (by simp [hj])
  rw [h1, h2] at e
  have := nm_inj (by have := h.1; omega) (by have := h.1; omega) e
  omega
theorem NamesOf.mem {l : Str} {ns : List Str} (h : NamesOf l ns) {x : Str} (hx : x ∈ ns) : ∃ j, j < 49 ∧ x = nm l j := by
  obtain ⟨k, hk, rfl⟩ := List.getElem_of_mem hx
  obtain ⟨d, hd, e⟩ := h.2 k ns[k] (by simp [hk])
  exact ⟨7 * k + d, by have := h.1; omega, e⟩
end WW
namespace WW
open PySem PySem.Spec PyProof.Rows L2
def spNames : Sp := fun vs H Q _ => ∃ (S L : Addr) (many : Nat) (l : Str), vs = [.ref S, .int (many : Int), .str l] ∧ StAt H S L ∧ many ≤ 7 ∧ l.length = 1 ∧
  ∀ q H' ns, StAt H' S L → SameBut S H H' → H q = none → q ≠ S → H' q = some (.lst (ns.map V.str)) → NamesOf l ns → ns.length = many → Q (.ref q) H'
section
variable {P : Program} {w : World} {K : PySem.W.Frag} {mg : Str → Option Value} {base : Heap} {f C : Addr} {fd : FuncData}
theorem scN : FnScope ["_law_state", "_law_many", "_law_letter", "_law_k"] ["_law_state", "_law_many", "_law_letter"] (defScope sNames) := ⟨rfl, rfl, rfl, by decide +kernel, rfl, by decide +kernel, by decide +kernel⟩
theorem StAt.put {H : Hp} {S L p : Addr} {o : HO} (T : StAt H S L) (hp : H p = none) : StAt (upd H p o) S L := T.same (Same.put hp)
theorem StAt.off {H : Hp} {S L p : Addr} {o u : HO} (T : StAt H S L) (hp : H p = some u) (h1 : p ≠ S) (h2 : p ≠ L) : StAt (upd H p o) S L := by
  obtain ⟨⟨i, r, z, h, hi⟩, ⟨zs, hl⟩, ne⟩ := T
  exact ⟨⟨i, r, z, by rw [upd_ne (Ne.symm h1)]; exact h, hi⟩, ⟨zs, by rw [upd_ne (Ne.symm h2)]; exact hl⟩, ne⟩
theorem ok_names {fD : Addr} {fdD : FuncData} (F : Fun K "_law_names" "_law_names" sNames f fd) (B : Blt mg) (GD : FnOk P w K mg base CX0 1 fD fdD ["_law_state", "_law_many"] spDraw) (bD : L2.Binds K fdD ["_law_state", "_law_many"] []) (mD : mg "_law_draw" = some (.ref fD)) (kD : PySem.W.keepIn K (.ref fD) = true) :
    FnOk P w K mg base CX0 2 f fd ["_law_state", "_law_many", "_law_letter"] spNames := by
  refine F.ok scN (fun vs H Q E h => ?_) (fun cdv A outer s H vs Q E hr h => ?_)
  · obtain ⟨S, L, many, l, rfl, _⟩ := h
    rfl
  · obtain ⟨S, L, many, l, rfl, ST, hm, hl, k⟩ := h
    refine ⟨_, pss_one (ps_ret (pe_lc (own := [("_law_k", 3)]) (g := gName 3) (tt := tYes) rfl scN.nd (pi_range1 (by rfl) B.range (pa_cons (pv 1) pa_nil)) (blkOk_by (own := [("_law_k", 3)]) (N := ["_law_state", "_law_many", "_law_letter", "_law_k"]) (sc := defScope sNames) (by decide +kernel))
      (fun _ _ _ _ _ => pg_name (i := 3) scN.nd rfl (Or.inl rfl)) (fun _ _ _ _ _ => pts_nil) (fun _ _ _ _ _ => pe_op op_add_str (pv 2) (pe_callTy call_str_int (by rfl) B.str (by decide +kernel) (pa_cons (pe_op op_add (pe_op op_mul pe_int (pv 3)) (pe_call GD hr (by rfl) mD kD bD .nil pass0 (pa_cons (pv 0) (pa_cons pe_int pa_nil)))) pa_nil))))), ?_⟩
    refine ⟨_, rfl, (many : Int), rfl, by omega, by omega, fun D hD => ?_⟩
    obtain ⟨⟨i0, r0, z0, hS0, _⟩, ⟨zs0, hL0⟩, ne0⟩ := id ST
    have hDS : D ≠ S := fun z => by rw [z, hS0] at hD; cases hD
    have hDL : D ≠ L := fun z => by rw [z, hL0] at hD; cases hD
    refine lc_range (lo := 0) (n := many) (fun i H' => ∃ ns, StAt H' S L ∧ SameBut S H H' ∧ H' D = some (.lst (ns.map V.str)) ∧ NamesOf l ns ∧ ns.length = i) ?_ ?_ ?_
    · exact ⟨[], ST.put hD, .of (Same.put hD), upd_same, ⟨by simp, fun k x h => by simp at h⟩, rfl⟩
    · rintro i H1 hi ⟨ns, S1, sb, eD, hn, rfl⟩
      refine ⟨rfl, ?_⟩
      unfold tYes
      refine iteT ?_
      refine ⟨_, rfl, _, rfl, _, _, rfl, rfl, .inl ⟨by decide, by decide⟩, ?_⟩
      refine ⟨_, rfl, S, L, 7, rfl, S1, by decide, by decide, fun d H2 d0 d7 S2 sb2 => ?_⟩
      have hd : d = ((d.toNat : Nat) : Int) := by omega
      have e : (7 : Int) * (0 + (ns.length : Nat)) + d = ((7 * ns.length + d.toNat : Nat) : Int) := by omega
      have lt : 7 * ns.length + d.toNat < 49 := by omega
      refine ⟨_, _, rfl, rfl, _, rfl, ?_, l, num (7 * ns.length + d.toNat), rfl, by rw [e]; rfl, ?_, ?_⟩
      · rw [e]
        show ((7 * ns.length + d.toNat : Nat) : Int).natAbs.log2 < 1920
        rw [Int.natAbs_natCast]
        exact Nat.lt_of_le_of_lt (Nat.log2_le_self _) (by omega)
      · have := num_len _ lt
        rw [hl]
        exact Nat.le_trans (Nat.add_le_add_left this 1) (by decide)
      · have eD2 : H2 D = some (.lst (ns.map V.str)) := sb2 _ _ eD hDS
        refine ⟨_, eD2, small1000 (by rw [List.length_map]; omega), ns ++ [nm l (7 * ns.length + d.toNat)], S2.off eD2 hDS hDL, ?_, by rw [upd_same, List.map_append]; rfl, ⟨by simp; omega, fun k x hx => ?_⟩, by simp⟩
        · intro b o e1 nb
          rw [upd_ne (ne_of_none e1 hD)]
          exact sb2 _ _ (sb _ _ e1 nb) nb
        · rw [List.getElem?_append] at hx
          split at hx
          · exact hn.2 k x hx
          · rename_i hk
            have hk2 : k = ns.length := by
              by_cases q : k - ns.length = 0
              · omega
              · rw [List.getElem?_singleton, if_neg q] at hx
                cases hx
            rw [hk2, Nat.sub_self] at hx
            have : x = nm l (7 * ns.length + d.toNat) := (Option.some.inj hx).symm
            exact ⟨d.toNat, by omega, by rw [hk2, this]⟩
    · rintro H1 ⟨ns, S1, sb, eD, hn, hl2⟩
      exact k D H1 ns S1 sb hD hDS eD hn hl2
end
end WW
namespace WW
open PySem PySem.Spec PyProof.Rows L2
def spMap : Sp := fun vs H Q _ => ∃ (S L a b : Addr) (xs ys : List Str), vs = [.ref S, .ref a, .ref b] ∧ StAt H S L ∧ H a = some (.lst (xs.map V.str)) ∧ H b = some (.lst (ys.map V.str)) ∧ a ≠ S ∧ b ≠ S ∧ xs.length ≤ 7 ∧ ys.length = xs.length ∧ xs.Nodup ∧
  ∀ q H' m, StAt H' S L → SameBut S H H' → H q = none → q ≠ S → H' q = some (.dK (dS m)) → keys m = xs → (vals m).Perm ys → Q (.ref q) H'
section
variable {P : Program} {w : World} {K : PySem.W.Frag} {mg : Str → Option Value} {base : Heap} {f C : Addr} {fd : FuncData}
theorem scMp : FnScope ["_law_state", "_law_names_here", "_law_targets", "_law_order", "_law_k", "_law_found", "_law_name"] ["_law_state", "_law_names_here", "_law_targets"] (defScope sMap) := ⟨rfl, rfl, rfl, by decide +kernel, rfl, by decide +kernel, by decide +kernel⟩
theorem ok_map {fD : Addr} {fdD : FuncData} (F : Fun K "_law_map" "_law_map" sMap f fd) (B : Blt mg) (GD : FnOk P w K mg base CX0 1 fD fdD ["_law_state", "_law_many"] spDraw) (bD : L2.Binds K fdD ["_law_state", "_law_many"] []) (mD : mg "_law_draw" = some (.ref fD)) (kD : PySem.W.keepIn K (.ref fD) = true) :
    FnOk P w K mg base CX0 2 f fd ["_law_state", "_law_names_here", "_law_targets"] spMap := by
  refine F.ok scMp (fun vs H Q E h => ?_) (fun cdv A outer s H vs Q E hr h => ?_)
  · obtain ⟨S, L, a, b, xs, ys, rfl, _⟩ := h
    rfl
  · obtain ⟨S, L, a, b, xs, ys, rfl, ST, ha, hb, naS, nbS, hl, hl2, nd, k⟩ := h
    have hu := hu_of hr
    refine ⟨_, pss_cons (ps_set (i := 3) scMp.nd rfl (Or.inl rfl) (pe_lst pa_nil))
      (pss_cons (ps_for PassesOwn.never rfl (pi_range1 (by rfl) B.range (pa_cons (pe_callB call_len_seq (by rfl) B.len PySem.boot_len (pa_cons (pv 1) pa_nil)) pa_nil)) (pg_name (i := 4) scMp.nd rfl (Or.inl rfl))
        (pss_one (ps_expr (pe_bm PySem.F.plainAttrs_list PySem.F.slot_list_insert PySem.F.type_list_insert mt_insert (pv 3) (pa_cons (pe_call GD hr (by rfl) mD kD bD .nil pass0 (pa_cons (pv 0) (pa_cons (pe_op op_add (pv 4) pe_int) pa_nil))) (pa_cons (pe_ix ix_list (pv 2) (pv 4) (fun _ _ => rfl)) pa_nil))))))
      (pss_cons (ps_set (i := 5) scMp.nd rfl (Or.inl rfl) pe_dnewK)
      (pss_cons (ps_for PassesOwn.never rfl (pi_enum (by rfl) B.enumerate (pa_cons (pv 1) pa_nil)) (pg_tup (by rfl) (pgs_cons (pg_name (i := 4) scMp.nd rfl (Or.inl rfl)) (pgs_cons (pg_name (i := 6) scMp.nd rfl (Or.inl rfl)) pgs_nil)))
        (pss_one (ps_dput hu (pv 5) (pv 6) (pe_ix ix_list (pv 3) (pv 4) (fun _ _ => rfl)) rfl)))
      (pss_one (ps_ret (pv 5)))))), ?_⟩
    obtain ⟨⟨i0, r0, z0, hS0, _⟩, ⟨zs0, hL0⟩, ne0⟩ := id ST
    refine ⟨by show 0 ≤ sizeLine; decide, fun O hO => ?_⟩
    have hOS : O ≠ S := fun z => by rw [z, hS0] at hO; cases hO
    have hOL : O ≠ L := fun z => by rw [z, hL0] at hO; cases hO
    have hOa : a ≠ O := ne_of_none ha hO
    have hOb : b ≠ O := ne_of_none hb hO
    refine ⟨_, rfl, a, _, rfl, .inl (SqL.of (by rw [upd_ne hOa]; exact ha)), _, rfl, by rw [List.length_map]; omega, by rw [List.length_map]; omega, ?_⟩
    have en : (((xs.map V.str).length : Int)).toNat = xs.length := by rw [List.length_map]; omega
    rw [en]
    refine for_range (lo := 0) (n := xs.length) (fun i σ H' => ∃ (os : List Str) (v4 : Option V), σ = [some (.ref S), some (.ref a), some (.ref b), some (.ref O), v4, none, none] ∧ StAt H' S L ∧ SameBut S H H' ∧ H' O = some (.lst (os.map V.str)) ∧ os.Perm (ys.take i)) ?_ ?_ ?_
    · exact ⟨[], none, rfl, ST.put hO, .of (Same.put hO), upd_same, by simp⟩
    · rintro i σ H1 hi ⟨os, v4, rfl, S1, sb, eO, pm⟩
      have hlen : os.length = i := by rw [pm.length_eq, List.length_take]; omega
      have hi2 : i < ys.length := by omega
      refine ⟨_, rfl, .inl ⟨rfl, _, SqL.of eO⟩, _, rfl, _, rfl, _, _, rfl, rfl, S, L, (i : Int) + 1, by simp, S1, by omega, by omega, fun d H2 d0 d1 S2 sb2 => ?_⟩
      have eb2 : H2 b = some (.lst (ys.map V.str)) := sb2 _ _ (sb _ _ hb nbS) nbS
      have eO2 : H2 O = some (.lst (os.map V.str)) := sb2 _ _ eO hOS
      refine ⟨_, rfl, _, rfl, b, _, _, .str ys[i], rfl, rfl, SqL.of eb2, ?_, ?_⟩
      · rw [Int.zero_add]
        exact atI_nat (by simp [hi2])
      refine ⟨O, _, d, _, rfl, rfl, eO2, small1000 (by rw [List.length_map]; omega), d0, by omega, ?_⟩
      refine ⟨os.take d.toNat ++ [ys[i]] ++ os.drop d.toNat, _, rfl, S2.off eO2 hOS hOL, ?_, ?_, ?_⟩
      · intro c o e nc
        have hc : c ≠ O := ne_of_none e hO
        rw [upd_ne hc]
        exact sb2 _ _ (sb _ _ e nc) nc
      · rw [upd_same, List.map_append, List.map_append, List.map_take, List.map_drop]
        rfl
      · rw [List.take_succ_eq_append_getElem hi2]
        have h1 : (os.take d.toNat ++ [ys[i]] ++ os.drop d.toNat).Perm (ys[i] :: (os.take d.toNat ++ os.drop d.toNat)) := by
          rw [List.append_assoc]
          exact List.perm_middle
        rw [List.take_append_drop] at h1
        exact h1.trans ((List.Perm.cons _ pm).trans (List.perm_append_singleton _ _).symm)
    · rintro σ H1 ⟨os, v4, rfl, S1, sb, eO, pm⟩
      rw [List.take_of_length_le (by omega)] at pm
      have hos : os.length = xs.length := by rw [pm.length_eq, hl2]
      intro D hD
      obtain ⟨⟨i1, r1, z1, hS1, _⟩, ⟨zs1, hL1⟩, _⟩ := id S1
      have hDS : D ≠ S := fun z => by rw [z, hS1] at hD; cases hD
      have hDL : D ≠ L := fun z => by rw [z, hL1] at hD; cases hD
      have hDO : O ≠ D := ne_of_none eO hD
      have ha1 : H1 a = some (.lst (xs.map V.str)) := sb _ _ ha naS
      have hDa : a ≠ D := ne_of_none ha1 hD
      have hD0 : H D = none := by
        cases e : H D with
        | none => rfl
        | some o => rw [sb _ _ e hDS] at hD; cases hD
      refine ⟨_, rfl, a, _, rfl, SqL.of (by rw [upd_ne hDa]; exact ha1), ?_⟩
      refine for_it (walk_enum (K := K) (a := a) (xs := xs.map V.str)) (fun i σ H' => ∃ (v4 v6 : Option V), σ = [some (.ref S), some (.ref a), some (.ref b), some (.ref O), v4, some (.ref D), v6] ∧ StAt H' S L ∧ SameBut S H H' ∧ H' O = some (.lst (os.map V.str)) ∧ H' a = some (.lst (xs.map V.str)) ∧ H' D = some (.dK (dS ((xs.zip os).take i)))) ?_ ?_ ?_ ?_
      · exact ⟨v4, none, rfl, S1.put hD, sb.trans (.of (Same.put hD)), by rw [upd_ne hDO]; exact eO, by rw [upd_ne hDa]; exact ha1, by rw [upd_same]; simp [dS]⟩
      · rintro i σ H2 hi ⟨_, _, _, _, _, _, e, _⟩
        exact SqL.of e
      · rintro i x σ H2 H3 hi ⟨v4, v6, rfl, S2, sb2, eO2, ea2, eD2⟩ ⟨Tp, x1, x2, rfl, hT, rfl, e1, e2⟩
        have hi3 : i < xs.length := by rw [List.length_map] at hi; exact hi
        have hi4 : i < os.length := by omega
        cases e1
        obtain ⟨nme, hn, rfl⟩ := getS e2
        refine ⟨Tp, _, rfl, SqT.of upd_same, rfl, _, _, rfl, _, _, rfl, rfl, ?_⟩
        have nO : O ≠ Tp := ne_of_none eO2 hT
        have nD : D ≠ Tp := ne_of_none eD2 hT
        have na : a ≠ Tp := ne_of_none ea2 hT
        refine ⟨_, rfl, _, rfl, O, _, _, .str os[i], rfl, rfl, SqL.of (by rw [upd_ne nO]; exact eO2), atI_nat (by simp [hi4]), ?_⟩
        refine ⟨_, rfl, _, rfl, D, _, rfl, DPut.k (k := Sum.inr nme) (by rw [upd_ne nD]; exact eD2) (small1000 (by rw [dS_length, List.length_take, List.length_zip]; omega)), ?_⟩
        refine ⟨_, _, rfl, ?_, ?_, ?_, ?_, ?_⟩
        · exact (S2.put hT).off (by rw [upd_ne nD]; exact eD2) hDS hDL
        · intro c o e nc
          rw [upd_ne (ne_of_none e hD0)]
          have := sb2 _ _ e nc
          rw [upd_ne (ne_of_none this hT)]
          exact this
        · rw [upd_ne hDO, upd_ne nO]; exact eO2
        · rw [upd_ne hDa, upd_ne na]; exact ea2
        · rw [upd_same]
          have hz : (xs.zip os)[i]? = some (nme, os[i]) := by
            rw [List.getElem?_zip_eq_some]
            exact ⟨hn, by simp [hi4]⟩
          have kz : (xs.zip os).map (·.1) = xs := List.map_fst_zip (by omega)
          have := putK_map (fun p : Str × Str => (Sum.inr p.1 : Key)) (fun p => V.str p.2) (l := xs.zip os) (by have := nodup_inr (l := (xs.zip os).map (·.1)) (by rw [kz]; exact nd); rw [List.map_map] at this; exact this) hz
          exact congrArg (fun z => some (HO.dK z)) this.symm
      · rintro σ H2 ⟨v4, v6, rfl, S2, sb2, eO2, ea2, eD2⟩
        rw [List.take_of_length_le (by rw [List.length_zip, List.length_map]; omega)] at eD2
        refine ⟨_, rfl, k D H2 (xs.zip os) S2 sb2 hD0 hDS eD2 (List.map_fst_zip (by omega)) ?_⟩
        show ((xs.zip os).map (·.2)).Perm ys
        rw [List.map_snd_zip (by omega)]
        exact pm
end
end WW
namespace WW
open PySem PySem.Spec PyProof.Rows L2
/-! ### powers of a one-to-one map of a set of names to itself -/
def it (f : Str → Str) : Nat → Str → Str
  | 0, x => x
  | n + 1, x => it f n (f x)
theorem it_succ (f : Str → Str) : ∀ (n : Nat) (x : Str), it f (n + 1) x = f (it f n x)
  | 0, _ => rfl
  | n + 1, x => it_succ f n (f x)
theorem it_add (f : Str → Str) : ∀ (n k : Nat) (x : Str), it f (n + k) x = it f k (it f n x)
  | 0, k, x => by rw [Nat.zero_add]; rfl
  | n + 1, k, x => by rw [show n + 1 + k = (n + k) + 1 by omega]; exact it_add f n k (f x)
/-- a map of its own keys to themselves -/
structure Perm1 (m : SM) : Prop where
  g : Gd m
  p : (vals m).Perm (keys m)
theorem Perm1.closed {m : SM} (h : Perm1 m) {x : Str} (hx : x ∈ keys m) : img m x ∈ keys m := h.p.mem_iff.mp (List.mem_map.mpr ⟨_, img_mem hx, rfl⟩)
theorem Perm1.itc {m : SM} (h : Perm1 m) : ∀ (n : Nat) {x : Str}, x ∈ keys m → it (img m) n x ∈ keys m
  | 0, _, hx => hx
  | n + 1, _, hx => h.itc n (h.closed hx)
theorem Perm1.inj {m : SM} (h : Perm1 m) {x y : Str} (hx : x ∈ keys m) (hy : y ∈ keys m) (e : img m x = img m y) : x = y := by
  have h1 := img_mem hx
  have h2 := img_mem hy
  rw [e] at h1
  exact val_inj h.g.2.1 h1 h2
theorem Perm1.itinj {m : SM} (h : Perm1 m) : ∀ (n : Nat) {x y : Str}, x ∈ keys m → y ∈ keys m → it (img m) n x = it (img m) n y → x = y
  | 0, _, _, _, _, e => e
  | n + 1, x, y, hx, hy, e => h.inj hx hy (h.itinj n (h.closed hx) (h.closed hy) e)
theorem Perm1.inv {m : SM} (h : Perm1 m) : Perm1 (inv m) := ⟨h.g.inv, by rw [vals_inv, keys_inv]; exact h.p.symm⟩
theorem img_inv {m : SM} (h : Perm1 m) {x : Str} (hx : x ∈ keys m) : img (inv m) (img m x) = x := by
  refine img_of (n := WW.inv m) h.inv.g.1 ?_
  exact List.mem_map.mpr ⟨(x, img m x), img_mem hx, rfl⟩
theorem mem_kinv {m : SM} (h : Perm1 m) {x : Str} : x ∈ keys (inv m) ↔ x ∈ keys m := by rw [keys_inv]; exact h.p.mem_iff
theorem inv_img {m : SM} (h : Perm1 m) {x : Str} (hx : x ∈ keys m) : img m (img (inv m) x) = x := by
  have := img_inv h.inv (x := x) ((mem_kinv h).mpr hx)
  rw [inv_inv] at this
  exact this
theorem it_inv {m : SM} (h : Perm1 m) : ∀ (n : Nat) {x : Str}, x ∈ keys m → it (img m) n (it (img (inv m)) n x) = x
  | 0, _, _ => rfl
  | n + 1, x, hx => by
    have hc : img (inv m) x ∈ keys m := (mem_kinv h).mp (h.inv.closed ((mem_kinv h).mpr hx))
    rw [it_succ]
    show img m (it (img m) n (it (img (inv m)) n (img (inv m) x))) = x
    rw [it_inv h n hc]
    exact inv_img h hx
/-- the n-th power of b on the names ks -/
def pw (b : SM) (ks : List Str) (n : Nat) : SM := ks.map fun x => (x, it (img b) n x)
theorem keys_pw (b : SM) (ks : List Str) (n : Nat) : keys (pw b ks n) = ks := by unfold keys pw; rw [List.map_map]; exact List.map_id ks
theorem vals_pw (b : SM) (ks : List Str) (n : Nat) : vals (pw b ks n) = ks.map (it (img b) n) := by unfold vals pw; rw [List.map_map]; rfl
theorem len_pw (b : SM) (ks : List Str) (n : Nat) : (pw b ks n).length = ks.length := List.length_map _
theorem mem_pw {b : SM} {ks : List Str} {n : Nat} {x : Str} (hx : x ∈ ks) : (x, it (img b) n x) ∈ pw b ks n := List.mem_map.mpr ⟨x, hx, rfl⟩
theorem img_pw {b : SM} {ks : List Str} {n : Nat} {x : Str} (nd : ks.Nodup) (hx : x ∈ ks) : img (pw b ks n) x = it (img b) n x := img_of (by rw [keys_pw]; exact nd) (mem_pw hx)
theorem perm_of_sub {α : Type} [DecidableEq α] : ∀ {l1 l2 : List α}, l1.Nodup → (∀ x ∈ l1, x ∈ l2) → l1.length = l2.length → l1.Perm l2
  | [], l2, _, _, h => by
    cases l2 with
    | nil => exact .nil
    | cons _ _ => cases h
  | x :: l1, l2, nd, sub, h => by
    have nd' := List.nodup_cons.mp nd
    have hx := sub x List.mem_cons_self
    have p := List.perm_cons_erase hx
    have h2 : l1.Perm (l2.erase x) := perm_of_sub nd'.2 (fun y hy => by
      have hyx : y ≠ x := fun z => nd'.1 (z ▸ hy)
      exact (List.mem_erase_of_ne hyx).mpr (sub y (List.mem_cons_of_mem _ hy))) (by
      have := p.length_eq
      rw [List.length_cons] at this h
      omega)
    exact (List.Perm.cons x h2).trans p.symm
theorem nodup_len {α : Type} [DecidableEq α] : ∀ {l1 l2 : List α}, l1.Nodup → (∀ x ∈ l1, x ∈ l2) → l1.length ≤ l2.length
  | [], _, _, _ => Nat.zero_le _
  | x :: l1, l2, nd, sub => by
    have nd' := List.nodup_cons.mp nd
    have p := List.perm_cons_erase (sub x List.mem_cons_self)
    have h2 := nodup_len nd'.2 (l2 := l2.erase x) (fun y hy => by
      have hyx : y ≠ x := fun z => nd'.1 (z ▸ hy)
      exact (List.mem_erase_of_ne hyx).mpr (sub y (List.mem_cons_of_mem _ hy)))
    have := p.length_eq
    rw [List.length_cons] at this ⊢
    omega
/-- ks: the keys of b in some order -/
structure On (b : SM) (ks : List Str) : Prop where
  h : Perm1 b
  p : ks.Perm (keys b)
theorem On.nd {b : SM} {ks : List Str} (o : On b ks) : ks.Nodup := o.p.nodup_iff.mpr o.h.g.1
theorem On.len {b : SM} {ks : List Str} (o : On b ks) : ks.length < 64 := by
  have := o.p.length_eq
  unfold keys at this
  rw [List.length_map] at this
  have := o.h.g.2.2
  omega
theorem On.mem {b : SM} {ks : List Str} (o : On b ks) {x : Str} : x ∈ ks ↔ x ∈ keys b := o.p.mem_iff
theorem On.gd {b : SM} {ks : List Str} (o : On b ks) (n : Nat) : Gd (pw b ks n) := by
  refine ⟨by show (keys (pw b ks n)).Nodup; rw [keys_pw]; exact o.nd, ?_, by rw [len_pw]; exact o.len⟩
  show (vals (pw b ks n)).Nodup
  rw [vals_pw]
  exact nodup_map_on (fun x hx y hy e => o.h.itinj n (o.mem.mp hx) (o.mem.mp hy) e) o.nd
theorem On.vals {b : SM} {ks : List Str} (o : On b ks) (n : Nat) : (vals (pw b ks n)).Perm (keys b) := by
  refine perm_of_sub (o.gd n).2.1 (fun x hx => ?_) ?_
  · have hx' : x ∈ WW.vals (pw b ks n) := hx
    rw [vals_pw] at hx'
    obtain ⟨y, hy, rfl⟩ := List.mem_map.mp hx'
    exact o.h.itc n (o.mem.mp hy)
  · have := o.p.length_eq
    show (WW.vals (pw b ks n)).length = _
    rw [vals_pw, List.length_map]
    exact this
theorem On.comp {b : SM} {ks ks' : List Str} (o : On b ks) (o' : On b ks') (n k : Nat) : comp (pw b ks n) (pw b ks' k) = pw b ks (n + k) := by
  unfold WW.comp pw
  rw [List.map_map]
  refine List.map_congr_left fun x hx => ?_
  show (x, img (pw b ks' k) (it (img b) n x)) = (x, it (img b) (n + k) x)
  rw [img_pw o'.nd (o'.mem.mpr (o.h.itc n (o.mem.mp hx))), it_add]
theorem pw_one {m : SM} (h : Perm1 m) : pw m (keys m) 1 = m := by
  unfold pw keys
  rw [List.map_map]
  conv => rhs; rw [← List.map_id m]
  refine List.map_congr_left fun p hp => ?_
  show (p.1, img m p.1) = p
  rw [img_of h.g.1 (show (p.1, p.2) ∈ m from hp)]
theorem pw_zero {m b : SM} (h : Perm1 m) : comp m (inv m) = pw b (keys m) 0 := by
  unfold comp pw keys
  rw [List.map_map]
  refine List.map_congr_left fun p hp => ?_
  show (p.1, img (inv m) p.2) = (p.1, p.1)
  rw [← img_of h.g.1 (show (p.1, p.2) ∈ m from hp), img_inv h (List.mem_map.mpr ⟨p, hp, rfl⟩)]
/-! ### whole numbers as powers -/
def iz (m : SM) (n : Int) (x : Str) : Str := if 0 ≤ n then it (img m) n.toNat x else it (img (inv m)) (-n).toNat x
def pz (m : SM) (n : Int) : SM := (keys m).map fun x => (x, iz m n x)
theorem pz_pos {m : SM} {n : Int} (h : 0 ≤ n) : pz m n = pw m (keys m) n.toNat := by
  unfold pz pw
  refine List.map_congr_left fun x _ => ?_
  unfold iz
  rw [if_pos h]
theorem pz_neg {m : SM} {n : Int} (h : ¬ 0 ≤ n) : pz m n = pw (inv m) (keys m) (-n).toNat := by
  unfold pz pw
  refine List.map_congr_left fun x _ => ?_
  unfold iz
  rw [if_neg h]
theorem keys_pz (m : SM) (n : Int) : keys (pz m n) = keys m := by unfold keys pz; rw [List.map_map]; exact List.map_id _
theorem iz_mem {m : SM} (h : Perm1 m) (n : Int) {x : Str} (hx : x ∈ keys m) : iz m n x ∈ keys m := by
  unfold iz
  split
  · exact h.itc _ hx
  · exact (mem_kinv h).mp (h.inv.itc _ ((mem_kinv h).mpr hx))
theorem on_self {m : SM} (h : Perm1 m) : On m (keys m) := ⟨h, .refl _⟩
theorem on_inv {m : SM} (h : Perm1 m) : On (inv m) (keys m) := ⟨h.inv, by rw [keys_inv]; exact h.p.symm⟩
theorem pz_gd {m : SM} (h : Perm1 m) (n : Int) : Gd (pz m n) := by
  by_cases hn : 0 ≤ n
  · rw [pz_pos hn]; exact (on_self h).gd _
  · rw [pz_neg hn]; exact (on_inv h).gd _
theorem pz_vals {m : SM} (h : Perm1 m) (n : Int) : (vals (pz m n)).Perm (keys m) := by
  by_cases hn : 0 ≤ n
  · rw [pz_pos hn]; exact (on_self h).vals _
  · rw [pz_neg hn]
    have := (on_inv h).vals (-n).toNat
    rw [keys_inv] at this
    exact this.trans h.p
theorem pz_perm1 {m : SM} (h : Perm1 m) (n : Int) : Perm1 (pz m n) := ⟨pz_gd h n, by rw [keys_pz]; exact pz_vals h n⟩
theorem iz_succ {m : SM} (h : Perm1 m) (n : Int) {x : Str} (hx : x ∈ keys m) : img m (iz m n x) = iz m (n + 1) x := by
  unfold iz
  by_cases hn : 0 ≤ n
  · rw [if_pos hn, if_pos (by omega), show (n + 1).toNat = n.toNat + 1 by omega, it_succ]
  · rw [if_neg hn]
    have e : (-n).toNat = (-(n + 1)).toNat + 1 := by omega
    rw [e, it_succ, inv_img h ((mem_kinv h).mp (h.inv.itc _ ((mem_kinv h).mpr hx)))]
    by_cases h1 : 0 ≤ n + 1
    · rw [if_pos h1, show (-(n + 1)).toNat = 0 by omega, show (n + 1).toNat = 0 by omega]
      rfl
    · rw [if_neg h1]
theorem pz_succ {m : SM} (h : Perm1 m) (n : Int) : comp (pz m n) m = pz m (n + 1) := by
  unfold comp pz
  rw [List.map_map]
  refine List.map_congr_left fun x hx => ?_
  show (x, img m (iz m n x)) = (x, iz m (n + 1) x)
  rw [iz_succ h n hx]
theorem iz_back {m : SM} (h : Perm1 m) (n : Int) {x : Str} (hx : x ∈ keys m) : iz m n (iz m (-n) x) = x := by
  unfold iz
  by_cases hn : 0 ≤ n
  · by_cases h0 : n = 0
    · subst h0
      simp [it]
    · rw [if_neg (show ¬ 0 ≤ -n by omega), if_pos hn, show (- -n).toNat = n.toNat by omega]
      exact it_inv h _ hx
  · rw [if_pos (show 0 ≤ -n by omega), if_neg hn]
    have := it_inv h.inv (-n).toNat (x := x) ((mem_kinv h).mpr hx)
    rw [inv_inv] at this
    exact this
theorem pz_inv {m : SM} (h : Perm1 m) (n : Int) : dEq (pz m (-n)) (inv (pz m n)) = true := by
  refine dEq_iff.mpr ⟨by unfold pz inv; simp, fun p hp => ?_⟩
  obtain ⟨x, hx, rfl⟩ := List.mem_map.mp hp
  refine lookup_of (pz_gd h n).inv.1 ?_
  refine List.mem_map.mpr ⟨(iz m (-n) x, x), ?_, rfl⟩
  refine List.mem_map.mpr ⟨iz m (-n) x, iz_mem h _ hx, ?_⟩
  show (iz m (-n) x, iz m n (iz m (-n) x)) = (iz m (-n) x, x)
  rw [iz_back h n hx]
theorem pz_zero_id {m : SM} : ∀ p ∈ pz m 0, p.1 = p.2 := by
  intro p hp
  obtain ⟨x, _, rfl⟩ := List.mem_map.mp hp
  rfl
/-! ### rings -/
theorem ring_ex {m : SM} (h : Perm1 m) {x : Str} (hx : x ∈ keys m) : ∃ n, 0 < n ∧ n ≤ m.length ∧ it (img m) n x = x := by
  by_cases hn : ((List.range (m.length + 1)).map fun i => it (img m) i x).Nodup
  · have := nodup_len hn (l2 := keys m) (fun y hy => by
      obtain ⟨i, _, rfl⟩ := List.mem_map.mp hy
      exact h.itc i hx)
    rw [List.length_map, List.length_range] at this
    unfold keys at this
    rw [List.length_map] at this
    omega
  · have hn : ¬ List.Pairwise (· ≠ ·) ((List.range (m.length + 1)).map fun i => it (img m) i x) := hn
    rw [List.pairwise_iff_getElem] at hn
    simp only [List.length_map, List.length_range, List.getElem_map, List.getElem_range] at hn
    have : ∃ i j, i < j ∧ j < m.length + 1 ∧ it (img m) i x = it (img m) j x := by
      apply Classical.byContradiction
      intro hc
      exact hn fun i j hi hj hij e => hc ⟨i, j, hij, hj, e⟩
    obtain ⟨i, j, hij, hj, e⟩ := this
    refine ⟨j - i, by omega, by omega, ?_⟩
    have e2 : it (img m) j x = it (img m) i (it (img m) (j - i) x) := by
      rw [← it_add, show j - i + i = j by omega]
    rw [e2] at e
    exact (h.itinj i hx (h.itc _ hx) e).symm
theorem it_mod {m : SM} (h : Perm1 m) {x : Str} (hx : x ∈ keys m) {l : Nat} (hl : it (img m) l x = x) : ∀ k : Nat, it (img m) (l * k) x = x
  | 0 => rfl
  | k + 1 => by rw [Nat.mul_succ, Nat.add_comm, it_add, hl]; exact it_mod h hx hl k
/-- the ring's place tells the power -/
theorem iz_ring {m : SM} (h : Perm1 m) {x : Str} (hx : x ∈ keys m) {l : Nat} (h0 : 0 < l) (hl : it (img m) l x = x) (n : Int) : it (img m) (n % (l : Int)).toNat x = iz m n x := by
  have hm0 : 0 ≤ n % (l : Int) := Int.emod_nonneg _ (by omega)
  have hdm := Int.emod_add_mul_ediv n l
  by_cases hn : 0 ≤ n
  · unfold iz
    rw [if_pos hn]
    have hq : 0 ≤ n / (l : Int) := Int.ediv_nonneg hn (by omega)
    have e : n.toNat = l * (n / (l : Int)).toNat + (n % (l : Int)).toNat := by
      have : (n.toNat : Int) = (l : Int) * (n / (l : Int)) + n % (l : Int) := by omega
      have h2 : ((l * (n / (l : Int)).toNat + (n % (l : Int)).toNat : Nat) : Int) = (l : Int) * (n / (l : Int)) + n % (l : Int) := by
        rw [Int.natCast_add, Int.natCast_mul, Int.toNat_of_nonneg hq, Int.toNat_of_nonneg hm0]
      omega
    rw [e, it_add, it_mod h hx hl]
  · have hz : iz m n x ∈ keys m := iz_mem h n hx
    refine h.itinj (-n).toNat (h.itc _ hx) hz ?_
    have e1 : it (img m) (-n).toNat (iz m n x) = x := by
      unfold iz
      rw [if_neg hn]
      exact it_inv h _ hx
    rw [e1, ← it_add]
    have hq : 0 ≤ -(n / (l : Int)) := by
      have : n / (l : Int) < 0 := Int.ediv_neg_of_neg_of_pos (by omega) (by omega)
      omega
    have e : (n % (l : Int)).toNat + (-n).toNat = l * (-(n / (l : Int))).toNat := by
      have h2 : ((l * (-(n / (l : Int))).toNat : Nat) : Int) = (l : Int) * -(n / (l : Int)) := by
        rw [Int.natCast_mul, Int.toNat_of_nonneg hq]
      have h3 : (l : Int) * -(n / (l : Int)) = -((l : Int) * (n / (l : Int))) := Int.mul_neg _ _
      omega
    rw [e]
    exact it_mod h hx hl _
end WW
namespace WE
open PySem PySem.Spec PyProof.Rows L2
/-! ### errors with what is given: class X(W): def __init__(self, given): W.__init__(self, given); self.given = given -/
/-- what the written part says of the class W above, which has no __init__ of its own -/
structure UpTxt (K : PySem.W.Frag) (mg : Str → Option Value) (x : Str) (W : Addr) : Prop where
  gW : mg x = some (.ref W)
  rd : PySem.W.readsIn K W (.type "type") = true
  ga : PySem.W.specialIn K (.ref W) "__getattribute__" = some (some (.builtin "type.__getattribute__"))
  iW : PySem.W.findCls K (.ref W) (.type "type") "__init__" = some (.val (.builtin "ValueError.__init__"))
section
variable {X : Cx} {e : Expr} {es : List Expr} {ta : TA} {p1 p2 pos : Pos} {x : Str} {W : Addr}
theorem pe_weinit {pl : Sem Bool} (hg : Gl X x) (U : UpTxt X.K X.mg x W) (ha : PA X (e :: es) ta) (hdb : (x == ("__debug__" : Str)) = false := by decide)
    (hc : eval (.Call (.Attribute (.Name x p1) "__init__" p2) (e :: es) [] pos) X.env = (do
      let ov ← eval (.Name x p1) X.env
      standAt p2.atName
      let (f, first) ← holding [ov] (getMethod ov "__init__" pl)
      callWith pos f first (backTo pos (starEach (e :: es) X.env)) (backToKw pos (keywordEach [] X.env))) := by rfl)
    (he : starEach (e :: es) X.env = (false, eval e X.env) :: starEach es X.env := by rfl) (hpl : (backTo pos (starEach es X.env)).any (·.1) = false := by rfl) :
    PE X (.Call (.Attribute (.Name x p1) "__init__" p2) (e :: es) [] pos) (tVeI X.K ta) := by
  refine ⟨fun pins s σ H Q I h => ?_⟩
  refine PySem.W.methodCall_KW (ld_glob I hg U.gW ?_ hdb) hc
  refine PySem.W.method_cls I.kIn U.ga (PySem.W.cls_value I.kIn U.rd U.iW (by decide +kernel) ?_)
  show wpAny _ _ (callWith pos (Value.builtin "ValueError.__init__") [] (backTo pos (starEach (e :: es) X.env)) []) _ _ _
  refine PyProof.Rows.callWith_method1 (thn (ha.run pos pins _ σ H _ (I.tok _) h) fun us s1 ⟨vs, H1, I1, r1, a, C, ws, ev, hl, T, ea, q⟩ => ?_) he hpl
  subst ev
  cases r1 with
  | @cons _ u0 _ ur ra rw' =>
    obtain rfl : u0 = Value.ref a := ra
    have hlen : ur.length ≤ sizeLine := by
      rw [← Paired.length rw', sizeLine_eq]
      omega
    exact oinit_ok T I1 ea hlen fun s' J => ⟨.non, H1, J, rfl, q⟩
end
/-- the __init__'s promise -/
def spErr (C : Addr) : Sp := fun vs H Q _ => ∃ (a : Addr) (v : V), vs = [.ref a, v] ∧ H a = some (exo a C none) ∧ ∀ dx, H dx = none → dx ≠ a → Q .non (upd (upd H dx (exd dx [("given", v)])) a (exo a C (some dx)))
section
variable {P : Program} {w : World} {K : PySem.W.Frag} {mg : Str → Option Value} {base : Heap} {f C W : Addr} {fd : FuncData}
theorem err_made {H1 : Hp} {v : V} {Q : XK} (h : ∀ d, H1 d = none → Q (.ref C) (some d) (upd H1 d (.xd [("given", v)]))) :
    [v].length ≤ 1000 ∧ ∀ a, H1 a = none → spErr C (.ref a :: ([v] ++ [])) (upd H1 a (exo a C none)) (fun u H2 => u = .non ∧ ∃ (d : Addr) (fs : List (Str × V)), H2 a = some (exo a C (some d)) ∧ H2 d = some (exd d fs) ∧ H1 d = none ∧ Q (.ref C) (some d) (upd (del H2 a) d (.xd fs))) (fun _ _ _ => False) := by
  refine ⟨by show 1 ≤ 1000; decide, fun a ha => ⟨a, v, rfl, upd_same, fun dx hdx ne => ⟨rfl, dx, _, upd_same, by rw [upd_ne ne, upd_same], ?_, ?_⟩⟩⟩
  · rw [upd_ne ne] at hdx
    exact hdx
  · have hdx' : H1 dx = none := by rw [upd_ne ne] at hdx; exact hdx
    have e : upd (del (upd (upd (upd H1 a (exo a C none)) dx (exd dx [("given", v)])) a (exo a C (some dx))) a) dx (.xd [("given", v)]) = upd H1 dx (.xd [("given", v)]) := by
      funext b
      by_cases hb : b = dx
      · rw [hb, upd_same, upd_same]
      · rw [upd_ne hb, upd_ne hb]
        by_cases hba : b = a
        · rw [hba, del_same, ha]
        · rw [del_ne hba, upd_ne hba, upd_ne hb, upd_ne hba]
    rw [e]
    exact h dx hdx'
end
end WE
namespace WW
open PySem PySem.Spec PyProof.Rows L2 WE
/-- the error's facts -/
structure ErrTxt (K : PySem.W.Frag) (mg : Str → Option Value) (CI W fE : Addr) : Prop where
  up : UpTxt K mg "WireError" W
  oex : OexC K CI
  gC : mg "InvalidMatching" = some (.ref CI)
  no : PySem.W.findIn K (.ref CI) "given" = some none
  iC : PySem.W.findIn K (.ref CI) "__init__" = some (some (.ref fE))
  tI : PySem.W.typeIn K (.ref fE) = some (.type "function")
section
variable {P : Program} {w : World} {K : PySem.W.Frag} {mg : Str → Option Value} {base : Heap} {f C CI W fE : Addr} {fd fdE : FuncData}
theorem scEr : FnScope ["self", "given"] ["self", "given"] (defScope sErr) := ⟨rfl, rfl, rfl, by decide +kernel, rfl, by decide +kernel, by decide +kernel⟩
theorem ok_err (F : Fun K "__init__" "InvalidMatching.__init__" sErr f fd) (T : ErrTxt K mg CI W fE) : FnOk P w K mg base CX0 1 f fd ["self", "given"] (spErr CI) := by
  refine F.ok scEr (fun vs H Q E h => ?_) (fun cdv A outer s H vs Q E hr h => ?_)
  · obtain ⟨a, v, rfl, _⟩ := h
    rfl
  · obtain ⟨a, v, rfl, ha, k⟩ := h
    refine ⟨_, pss_cons (ps_expr (pe_weinit (by rfl) T.up (pa_cons (pv 0) (pa_cons (pv 1) pa_nil)))) (pss_one (ps_ost (pv 0) (pv 1))), ?_⟩
    refine ⟨_, rfl, _, rfl, a, CI, [v], rfl, by show 1 ≤ 1000; decide, T.oex, ha, ?_⟩
    exact ⟨_, rfl, _, rfl, a, CI, rfl, T.oex, T.no, .inl ⟨ha, fun dx hn hne => k dx hn hne⟩⟩
def spPower (C CI : Addr) : Sp := fun vs H Q E => ∃ (p : Addr) (m1 m2 : SM) (t : Int), vs = [.ref p, .int t] ∧ MatchAt C H p m1 m2 ∧
  ((Perm1 m1 ∧ Perm1 m2 ∧ ∀ r H', Same H H' → H r = none → MatchAt C H' r (pz m1 t) (pz m2 t) → Q (.ref r) H') ∨
   (fitB m1 m2 m1 m2 = false ∧ ∀ d H', Same H H' → H d = none → H' d = some (.xd [("given", .int t)]) → E (.ref CI) (some d) H'))
def leftOf (σ : L2.St) : Nat := match σ[4]? with
  | some (some (V.int l)) => l.toNat
  | _ => 0
abbrev nP : List Str := ["self", "times", "found", "factor", "left"]
theorem scPw : FnScope nP ["self", "times"] (defScope sPower) := ⟨rfl, rfl, rfl, by decide +kernel, rfl, by decide +kernel, by decide +kernel⟩
theorem and_one {x : Int} (h : 0 ≤ x) : Builtin.bitAnd x 1 = x % 2 := by
  have e : Builtin.bitAnd x 1 = ((x.toNat &&& 1 : Nat) : Int) := by simp [Builtin.bitAnd, h]
  rw [e, Nat.and_one_is_mod]
  omega
theorem ok_power {fF u1 u2 : Addr} {fdF ud1 ud2 : FuncData} (F : Fun K "power" "Matching.power" sPower f fd) (T : MTxt K mg C) (B : Blt mg) (TE : ErrTxt K mg CI W fE) (GE : FnOk P w K mg base CX0 1 fE fdE ["self", "given"] (spErr CI)) (bE : L2.Binds K fdE ["self", "given"] [])
    (GF : FnOk P w K mg base CX0 2 fF fdF ["one", "other"] (spFits C)) (bF : L2.Binds K fdF ["one", "other"] []) (mF : mg "fits_behind" = some (.ref fF)) (kF : PySem.W.keepIn K (.ref fF) = true) (hSF : PySem.W.selfFirst K C = true)
    (um1 : Meth K C "__mul__" u1) (U1 : FnOk P w K mg base CX0 5 u1 ud1 ["self", "other"] (spMul C)) (ub1 : L2.Binds K ud1 ["self", "other"] []) (um2 : Meth K C "__invert__" u2) (U2 : FnOk P w K mg base CX0 5 u2 ud2 ["self"] (spInv C)) (ub2 : L2.Binds K ud2 ["self"] []) :
    FnOk P w K mg base (L2.CX P w) 6 f fd ["self", "times"] (spPower C CI) := by
  refine F.okX scPw (fun vs H Q E h => ?_) (fun cdv A outer s H vs Q E hr h => ?_)
  · obtain ⟨p, m1, m2, t, rfl, _⟩ := h
    rfl
  · obtain ⟨p, m1, m2, t, rfl, M, hway⟩ := h
    have r2 : Room 2 _ := hr.mono (by decide)
    refine ⟨_, pss_cons (ps_if (pt_not (pt_val (pe_call GF r2 (by rfl) mF kF bF .nil pass0 (pa_cons (pv 0) (pa_cons (pv 0) pa_nil))))) (pss_one (ps_raise rfl (takes_of rfl rfl rfl rfl) (pmk_oex TE.oex TE.iC TE.tI GE r2 bE .nil pass0 (by rfl) TE.gC (pa_cons (pv 1) pa_nil)))) pss_nil)
      (PSs.nox (pss_cons (ps_set (i := 2) scPw.nd rfl (Or.inl rfl) (pe_op (op_own (op := .Mult) hSF um1 U1 hr ub1 pass0) (pv 0) (pe_un (un_own um2 U2 hr ub2 pass0) (pv 0))))
      (C8.pss_cut (ps_set (i := 3) scPw.nd rfl (Or.inl rfl) (pe_ifExp (pt_cmpR op_lt (pv 1) pe_int (nomark _)) (pe_un (un_own um2 U2 hr ub2 pass0) (pv 0)) (pv 0)))
      (pss_cons (ps_set (i := 4) scPw.nd rfl (Or.inl rfl) (pe_callB call_abs (by rfl) B.abs (by decide +kernel) (pa_cons (pv 1) pa_nil)))
      (pss_cons (ps_while PassesOwn.never (pt_cmpR op_gt (pv 4) pe_int (nomark _))
        (C8.pss_cut (ps_if (pt_cmpR op_eq (pe_op op_and (pv 4) pe_int) pe_int (nomark _)) (pss_one (ps_set (i := 2) scPw.nd rfl (Or.inl rfl) (pe_op (op_own (op := .Mult) hSF um1 U1 hr ub1 pass0) (pv 2) (pv 3)))) pss_nil)
        (pss_cons (ps_set (i := 3) scPw.nd rfl (Or.inl rfl) (pe_op (op_own (op := .Mult) hSF um1 U1 hr ub1 pass0) (pv 3) (pv 3)))
        (pss_one (ps_set (i := 4) scPw.nd rfl (Or.inl rfl) (pe_op op_shr (pv 4) pe_int))))))
      (pss_one (ps_ret (pv 2)))))))), ?_⟩
    refine ⟨_, rfl, _, rfl, p, p, m1, m2, m1, m2, rfl, M, M, fun H1 s1 => ?_⟩
    rcases hway with ⟨P1, P2, k⟩ | ⟨hf, k⟩
    · rw [fitB_of P1.p P2.p]
      refine ⟨_, rfl, iteF ?_⟩
      obtain ⟨dx, d1, d2, l, ts, h1, h2, h3, h4, h5⟩ := id M.ex
      -- found = self * ~self
      refine ⟨_, rfl, _, rfl, p, dx, _, rfl, s1 _ _ h1, p, m1, m2, rfl, M.same s1, fun r0 H2 s2 hr0 MV => ?_⟩
      have s02 : Same H H2 := s1.trans s2
      obtain ⟨dy, e1, e2, l', ts', i1, i2, i3, i4, i5⟩ := id MV.ex
      refine ⟨p, r0, dx, dy, _, _, rfl, rfl, s02 _ _ h1, i1, p, r0, m1, m2, inv m1, inv m2, rfl, M.same s02, MV, by rw [keys_inv], by rw [keys_inv], fun fo0 H3 s3 hfo0 MF => ?_⟩
      have s03 : Same H H3 := s02.trans s3
      -- factor
      refine ⟨fun σ' H' => ∃ (fc : Addr) (b1 b2 : SM), σ' = [some (.ref p), some (.int t), some (.ref fo0), some (.ref fc), none] ∧ Same H3 H' ∧ MatchAt C H' fc (pw b1 (keys b1) 1) (pw b2 (keys b2) 1) ∧ On b1 (keys m1) ∧ On b2 (keys m2) ∧ pz m1 t = pw b1 (keys m1) t.natAbs ∧ pz m2 t = pw b2 (keys m2) t.natAbs, ?_, ?_⟩
      · refine ⟨_, rfl, _, _, rfl, rfl, _, rfl, ?_⟩
        by_cases ht : t < 0
        · rw [decide_eq_true ht]
          refine iteT ?_
          refine ⟨_, rfl, p, dx, _, rfl, s03 _ _ h1, p, m1, m2, rfl, M.same s03, fun r1 H4 s4 hr1 MV1 => ?_⟩
          refine ⟨r1, inv m1, inv m2, rfl, s4, by rw [pw_one P1.inv, pw_one P2.inv]; exact MV1, on_inv P1, on_inv P2, ?_, ?_⟩
          · rw [pz_neg (by omega), show (-t).toNat = t.natAbs by omega]
          · rw [pz_neg (by omega), show (-t).toNat = t.natAbs by omega]
        · rw [decide_eq_false ht]
          refine iteF ?_
          refine ⟨_, rfl, p, m1, m2, rfl, Same.refl _, by rw [pw_one P1, pw_one P2]; exact M.same s03, on_self P1, on_self P2, ?_, ?_⟩
          · rw [pz_pos (by omega), show t.toNat = t.natAbs by omega]
          · rw [pz_pos (by omega), show t.toNat = t.natAbs by omega]
      rintro _ H4 ⟨fc0, b1, b2, rfl, s4, MC0, o1, o2, ez1, ez2⟩
      rw [pw_zero (b := b1) P1, pw_zero (b := b2) P2] at MF
      -- left = abs(times)
      refine ⟨_, rfl, t, rfl, ?_⟩
      have eab : (if t < 0 then -t else t) = (t.natAbs : Int) := by split <;> omega
      rw [eab]
      have on1 : On b1 (keys b1) := ⟨o1.h, .refl _⟩
      have on2 : On b2 (keys b2) := ⟨o2.h, .refl _⟩
      refine while_by (fun σ' H' => ∃ (fo fc : Addr) (n kk left : Nat), σ' = [some (.ref p), some (.int t), some (.ref fo), some (.ref fc), some (.int (left : Int))] ∧ Same H H' ∧ H fo = none ∧ MatchAt C H' fo (pw b1 (keys m1) n) (pw b2 (keys m2) n) ∧ MatchAt C H' fc (pw b1 (keys b1) kk) (pw b2 (keys b2) kk) ∧ n + kk * left = t.natAbs)
        (fun σ' _ => leftOf σ') ⟨fo0, fc0, 0, 1, t.natAbs, rfl, s03.trans s4, s02.free hfo0, MF.same s4, MC0, by omega⟩ ?_ (fun σ' H' Q1 Q2 hq ⟨v, e, i, j, e1, e2, b, e3, q⟩ => ⟨v, e, i, j, e1, e2, b, e3, hq _ _ q⟩)
      rintro _ H5 ⟨fo, fc, n, kk, left, rfl, s5, hfo, MO, MC, esum⟩
      refine ⟨_, rfl, _, _, rfl, rfl, _, rfl, ?_⟩
      by_cases hl : (0 : Int) < (left : Int)
      · rw [decide_eq_true hl]
        refine iteT ?_
        -- if left & 1 == 1
        refine ⟨fun σ' H' => ∃ (fo' : Addr) (n' : Nat), σ' = [some (.ref p), some (.int t), some (.ref fo'), some (.ref fc), some (.int (left : Int))] ∧ Same H5 H' ∧ H fo' = none ∧ MatchAt C H' fo' (pw b1 (keys m1) n') (pw b2 (keys m2) n') ∧ n' + (kk + kk) * (left / 2) = t.natAbs, ?_, ?_⟩
        · refine ⟨_, rfl, _, _, rfl, rfl, rfl, _, rfl, ?_⟩
          have hao := and_one (x := (left : Int)) (by omega)
          show (if decide (V.int (Builtin.bitAnd (left : Int) 1) = V.int 1) = true then _ else _)
          rw [hao]
          have hdm := Nat.div_add_mod left 2
          by_cases ho : left % 2 = 1
          · rw [show decide (V.int ((left : Int) % 2) = V.int 1) = true from decide_eq_true (by congr 1; omega)]
            refine iteT ?_
            obtain ⟨w1, w2, w3, w4, w5, W1, W2, W3, W4, W5⟩ := id MO.ex
            obtain ⟨x1, x2, x3, x4, x5, X1, X2, X3, X4, X5⟩ := id MC.ex
            refine ⟨_, rfl, _, rfl, fo, fc, w1, x1, _, _, rfl, rfl, W1, X1, fo, fc, _, _, _, _, rfl, MO, MC, by rw [keys_pw]; exact o1.vals n, by rw [keys_pw]; exact o2.vals n, fun r H6 s6 hr6 MR => ?_⟩
            rw [o1.comp on1, o2.comp on2] at MR
            refine ⟨r, n + kk, rfl, s6, s5.free hr6, MR, ?_⟩
            have e : left = 2 * (left / 2) + 1 := by omega
            have e2 : kk * left = (kk + kk) * (left / 2) + kk := by
              conv => lhs; rw [e]
              rw [Nat.mul_add, Nat.mul_one, ← Nat.mul_assoc, Nat.mul_comm kk 2, Nat.two_mul]
            omega
          · rw [show decide (V.int ((left : Int) % 2) = V.int 1) = false from decide_eq_false (by intro z; injection z with z; omega)]
            refine iteF ?_
            refine ⟨fo, n, rfl, Same.refl _, hfo, MO, ?_⟩
            have e : left = 2 * (left / 2) := by omega
            have e2 : kk * left = (kk + kk) * (left / 2) := by
              conv => lhs; rw [e]
              rw [← Nat.mul_assoc, Nat.mul_comm kk 2, Nat.two_mul]
            omega
        rintro _ H6 ⟨fo', n', rfl, s6, hfo', MO', esum'⟩
        have MC' := MC.same s6
        obtain ⟨x1, x2, x3, x4, x5, X1, X2, X3, X4, X5⟩ := id MC'.ex
        refine ⟨_, rfl, _, rfl, fc, fc, x1, x1, _, _, rfl, rfl, X1, X1, fc, fc, _, _, _, _, rfl, MC', MC', by rw [keys_pw]; exact on1.vals kk, by rw [keys_pw]; exact on2.vals kk, fun r H7 s7 hr7 MR => ?_⟩
        rw [on1.comp on1, on2.comp on2] at MR
        refine ⟨_, rfl, _, _, rfl, rfl, (by show (0 : Int) ≤ 1; decide), ?_⟩
        refine ⟨⟨fo', r, n', kk + kk, left / 2, ?_, (s5.trans s6).trans s7, hfo', MO'.same s7, MR, esum'⟩, ?_⟩
        · show [some (V.ref p), some (V.int t), some (V.ref fo'), some (V.ref r), some (V.int ((left : Int) / 2 ^ (1 : Int).toNat))] = _
          simp
        · show ((left : Int) / 2 ^ (1 : Int).toNat).toNat < ((left : Int)).toNat
          have : (2 : Int) ^ (1 : Int).toNat = 2 := by decide
          rw [this]
          omega
      · rw [decide_eq_false hl]
        refine iteF ?_
        have hl0 : left = 0 := by omega
        subst hl0
        rw [Nat.mul_zero, Nat.add_zero] at esum
        subst esum
        rw [← ez1, ← ez2] at MO
        exact ⟨_, rfl, k fo H5 s5 hfo MO⟩
    · rw [hf]
      refine ⟨_, rfl, iteT ?_⟩
      exact ⟨_, rfl, err_made fun d hd => k d _ (Same.new s1 hd) (s1.free hd) upd_same⟩
end
end WW
namespace WW
open PySem PySem.Spec PyProof.Rows L2
theorem fnR_of {P : Program} {w : World} {K : PySem.W.Frag} {mg : Str → Option Value} {base : Heap} {CX : CXT} {k : Nat} {f : Addr} {fd : FuncData} {ps : List Str} {sp : Sp} (F : FnOk P w K mg base CX k f fd ps sp) (hb : L2.Binds K fd ps []) : FnR P w K mg base CX k f sp := by
  intro A outer s H us vs Q E hr e0 r h
  have KX : K.In s.heap := e0.mod.kin.keeps fun b o e => (e0.bs b o e).1
  have hl : us.length = ps.length := by rw [← r.length]; exact F.len _ _ _ _ h
  have := hb s us KX (by simpa using hl)
  rw [List.append_nil] at this
  exact F.run A outer s H ⟨us, []⟩ us vs Q E hr e0 this r h
/-! ### o(e, ..), o an instance of C -/
def tCallI (C : Addr) (sp : Sp) (E : XK) (tf : TE) (t : TA) : TE := fun σ H Q => tf σ H fun y H1 => ∃ a, y = V.ref a ∧ t σ H1 fun vs H2 => (∃ (dx : Addr) (fs : List (Str × V)), H2 a = some (.ins C dx fs)) ∧ sp (V.ref a :: vs) H2 Q E
theorem pe_callI {X : Cx} {CX : CXT} {k : Nat} {g C : Addr} {sp : Sp} {E : XK} {fe e : Expr} {es : List Expr} {tf : TE} {t : TA} {pos : Pos} (hf : PE X fe tf) (c : StX.CallO X.K C g) (F : FnR X.prog X.w X.K X.mg X.base CX k g sp) (hr : Room k X.A) (hx : Passes CX X E) (ha : PA X (e :: es) t)
    (ht : eval (.Call fe (e :: es) [] pos) X.env = (do callWith pos (← eval fe X.env) [] (backTo pos (starEach (e :: es) X.env)) (backToKw pos (keywordEach [] X.env))) := by rfl)
    (he : starEach (e :: es) X.env = (false, eval e X.env) :: starEach es X.env := by rfl) (hpl : (backTo pos (starEach es X.env)).any (·.1) = false := by rfl) : PE X (.Call fe (e :: es) [] pos) (tCallI C sp E tf t) := by
  refine ⟨fun pins s σ H Q I h => ?_⟩
  refine Call_ (thn (hf.run pins s σ H _ I h) fun u s1 ⟨y, H1, I1, ry, a, ey, q⟩ => ?_) ht
  subst ey
  obtain rfl : u = Value.ref a := ry
  refine StX.callO_with (thn (ha.run pos pins s1 σ H1 _ I1 q) fun us s2 ⟨vs, H2, I2, r, ⟨dx, fs, hi⟩, q2⟩ => ?_) he hpl
  obtain ⟨ox, od, J, hd⟩ := StX.insC_at I2 (C := C) (.inr ⟨dx, fs, hi⟩)
  exact ⟨⟨C, ox, od, J, hd⟩, StX.run_callO c F hr hx I2 (.inr ⟨dx, fs, hi⟩) r q2⟩
end WW
namespace WW
open PySem PySem.Spec PyProof.Rows L2
def spHolds (C : Addr) : Sp := fun vs H Q _ => ∃ (p a b : Addr) (m1 m2 : SM), vs = [.ref p, .ref a, .ref b] ∧ MatchAt C H p m1 m2 ∧ H a = some (.dK (dS m1)) ∧ H b = some (.dK (dS m2)) ∧ ∀ H', Same H H' → Q (.bl true) H'
structure MFns (P : Program) (w : World) (K : PySem.W.Frag) (mg : Str → Option Value) (base : Heap) (C : Addr) : Prop where
  netMap : ∃ f fd, Meth K C "net_map" f ∧ FnOk P w K mg base CX0 1 f fd ["self"] (spNetMap C) ∧ L2.Binds K fd ["self"] []
  idMap : ∃ f fd, Meth K C "id_map" f ∧ FnOk P w K mg base CX0 1 f fd ["self"] (spIdMap C) ∧ L2.Binds K fd ["self"] []
  idOf : ∃ f fd, Meth K C "id_of" f ∧ FnOk P w K mg base CX0 1 f fd ["self", "name"] (spIdOf C) ∧ L2.Binds K fd ["self", "name"] []
  len : ∃ f fd, Meth K C "__len__" f ∧ FnOk P w K mg base CX0 1 f fd ["self"] (spLenM C) ∧ L2.Binds K fd ["self"] []
  call : ∃ f, StX.CallO K C f ∧ FnR P w K mg base CX0 1 f (spCallM C)
section
variable {P : Program} {w : World} {K : PySem.W.Frag} {mg : Str → Option Value} {base : Heap} {f C : Addr} {fd : FuncData}
abbrev nH : List Str := ["_law_told", "_law_nets", "_law_ids", "_law_net", "_law_name"]
theorem scH : FnScope nH ["_law_told", "_law_nets", "_law_ids"] (defScope sHolds) := ⟨rfl, rfl, rfl, by decide +kernel, rfl, by decide +kernel, by decide +kernel⟩
theorem ok_holds (F : Fun K "_law_holds" "_law_holds" sHolds f fd) (T : MTxt K mg C) (B : Blt mg) (G : MFns P w K mg base C) : FnOk P w K mg base CX0 4 f fd ["_law_told", "_law_nets", "_law_ids"] (spHolds C) := by
  obtain ⟨⟨fn, fdn, mn, Gn, bn⟩, ⟨fi, fdi, mi, Gi, bi⟩, ⟨fo, fdo, mo, Go, bo⟩, ⟨fl, fdl, ml, Gl, bl⟩, ⟨fc, cc, Gc⟩⟩ := G
  refine F.ok scH (fun vs H Q E h => ?_) (fun cdv A outer s H vs Q E hr h => ?_)
  · obtain ⟨p, a, b, m1, m2, rfl, _⟩ := h
    rfl
  · obtain ⟨p, a, b, m1, m2, rfl, M, ha, hb, k⟩ := h
    have hu := hu_of hr
    have hu0 : _ < _ := hr.units0
    have hr1 : Room 1 _ := hr.mono (by decide)
    have hr2 : Room 2 _ := hr.mono (by decide)
    refine ⟨_, pss_cons (ps_if (PW.pt (pw_or (pt_not (pt_val (pe_callB (C8.call_isC T.ins) (by rfl) B.isinstance (by decide +kernel) (pa_cons (pv 0) (pa_cons (pe_glob (v := .ref C) rfl T.mgC rfl) pa_nil)))))
        (pw_or (pt_cmpR (op_neDS hu0) (pe_meth0 (pv 0) T.cl mn Gn hr1 bn .nil pass0) (pv 1) (nomark _))
        (pw_or (pt_cmpR (op_neDS hu0) (pe_meth0 (pv 0) T.cl mi Gi hr1 bi .nil pass0) (pv 2) (nomark _))
        (pw_or1 (pt_cmpR op_ne (pe_callB (call_lenO ml Gl hr2 bl pass0) (by rfl) B.len PySem.boot_len (pa_cons (pv 0) pa_nil)) (pe_callB call_lenD (by rfl) B.len PySem.boot_len (pa_cons (pv 1) pa_nil)) (nomark _))))))) (pss_one (ps_ret pe_bl)) pss_nil)
      (pss_cons (ps_if (pt_not (pt_val (pe_callB (cr_all rfl) (by rfl) B.all (by decide +kernel) (pa_cons (pe_lock (pe_lc (own := [("_law_net", 3)]) (g := gName 3) (tt := tYes) rfl scH.nd (pi_keys (pv 1)) (blkOk_by (own := [("_law_net", 3)]) (N := nH) (sc := defScope sHolds) (by decide +kernel))
            (fun _ _ _ _ _ => pg_name (i := 3) scH.nd rfl (Or.inl rfl)) (fun _ _ _ _ _ => pts_nil) (fun _ _ _ _ _ => pe_cmpR op_eq (pe_callI (pv 0) cc Gc hr1 pass0 (pa_cons (pv 3) pa_nil)) (pe_dget hu (pv 1) (pv 3) (fun _ _ => rfl)) (nomark _)))) pa_nil)))) (pss_one (ps_ret pe_bl)) pss_nil)
      (pss_one (ps_ret (pe_callB (cr_all rfl) (by rfl) B.all (by decide +kernel) (pa_cons (pe_lock (pe_lc (own := [("_law_name", 4)]) (g := gName 4) (tt := tYes) rfl scH.nd (pi_keys (pv 2)) (blkOk_by (own := [("_law_name", 4)]) (N := nH) (sc := defScope sHolds) (by decide +kernel))
            (fun _ _ _ _ _ => pg_name (i := 4) scH.nd rfl (Or.inl rfl)) (fun _ _ _ _ _ => pts_nil) (fun _ _ _ _ _ => pe_cmpR op_eq (pe_meth (pv 0) T.cl mo Go hr1 bo .nil pass0 (pa_cons (pv 4) pa_nil)) (pe_dget hu (pv 2) (pv 4) (fun _ _ => rfl)) (nomark _)))) pa_nil))))), ?_⟩
    obtain ⟨dx, d1, d2, l, ts, h1, h2, h3, h4, h5⟩ := M.ex
    have g1 := M.g1
    have g2 := M.g2
    have len1 : m1.length < 64 := g1.2.2
    have len2 : m2.length < 64 := g2.2.2
    refine ⟨_, rfl, p, dx, _, rfl, h1, _, rfl, iteF ?_⟩
    -- told.net_map() != nets
    refine ⟨_, rfl, p, dx, _, rfl, h1, flds_no _ _ _ (by decide +kernel) (by decide +kernel) (by decide +kernel), p, m1, m2, rfl, M, fun x1 hx1 => ?_⟩
    generalize e1 : upd H x1 (.dK (dS m1)) = H1
    have s1 : Same H H1 := by rw [← e1]; exact Same.put hx1
    refine ⟨_, rfl, x1, a, m1, m1, rfl, rfl, by rw [← e1]; exact upd_same, s1 _ _ ha, _, rfl, ?_⟩
    rw [dEq_refl g1]
    refine iteF ?_
    -- told.id_map() != ids
    refine ⟨_, rfl, p, dx, _, rfl, s1 _ _ h1, flds_no _ _ _ (by decide +kernel) (by decide +kernel) (by decide +kernel), p, m1, m2, rfl, M.same s1, fun x2 hx2 => ?_⟩
    generalize e2 : upd H1 x2 (.dK (dS m2)) = H2
    have s2 : Same H H2 := by rw [← e2]; exact Same.new s1 hx2
    refine ⟨_, rfl, x2, b, m2, m2, rfl, rfl, by rw [← e2]; exact upd_same, s2 _ _ hb, _, rfl, ?_⟩
    rw [dEq_refl g2]
    refine iteF ?_
    -- len(told) != len(nets)
    refine ⟨_, rfl, p, dx, _, rfl, s2 _ _ h1, p, m1, m2, rfl, M.same s2, _, rfl, by omega, by omega, _, rfl, a, _, rfl, s2 _ _ ha, rfl, _, rfl, ?_⟩
    rw [show (!decide (V.int (m1.length : Int) = V.int ((dS m1).length : Int))) = false by rw [dS_length]; simp]
    refine iteF ?_
    have s05 : Same H H2 := s2
    -- all told(net) == nets[net]
    refine ⟨a, _, s05 _ _ ha, trivial, fun od2 => ?_⟩
    refine ⟨_, rfl, a, od2, rfl, .inl ⟨dS m1, upd_same, fun D4 hD4 => ?_⟩⟩
    have hDa4 : D4 ≠ a := fun z => by rw [z, upd_same] at hD4; cases hD4
    have hD4' : H2 D4 = none := by rw [upd_ne hDa4] at hD4; exact hD4
    have al1 : (m1.map fun _ => true).all id = true := by simp
    have al2 : (m2.map fun _ => true).all id = true := by simp
    have M5 := M.same s05
    refine lcM (walk_keys (d := a) (o := od2) (kvs := dS m1)) ((m1.map fun _ => true).map V.bl) (by simp [dS_length]) (by rw [dS_length]; omega) (fun acc => by rw [upd_ne (Ne.symm hDa4), upd_same]) (fun i x y acc H' hy hY => ?_) ?_
    · obtain ⟨rfl, kk, v, e, rfl⟩ := hY
      obtain ⟨y1, z1, hab, rfl, rfl⟩ := getD e
      rw [List.getElem?_map, List.getElem?_map, hab] at hy
      cases hy
      have lk : m1.lookup y1 = some z1 := lookup_of g1.1 (List.mem_of_getElem? hab)
      have MR := M5.frz (od := od2) (x := .lst acc) (s05 _ _ ha) hD4'
      obtain ⟨dx', _, _, _, hh, _⟩ := id MR
      refine ⟨rfl, fun R hR => ⟨rfl, _, rfl, p, rfl, _, rfl, ⟨dx', _, hh⟩, p, m1, m2, y1, z1, rfl, MR, lk, _, rfl, _, rfl, a, _, rfl, dget_R (rd_frz (s05 _ _ ha) (s05 _ _ ha) hD4') lk, rfl, ?_⟩⟩
      rw [decide_eq_true rfl]
      exact hR
    refine ⟨by rw [upd_ne (Ne.symm hDa4), upd_same], ?_⟩
    rw [lock_back (s05 _ _ ha) hDa4]
    refine ⟨D4, _, rfl, SqL.of upd_same, _, rfl, ?_⟩
    rw [al1]
    refine iteF ?_
    generalize e6 : upd H2 D4 (.lst ((m1.map fun _ => true).map V.bl)) = H6
    have s6 : Same H H6 := by rw [← e6]; exact Same.new s05 hD4'
    -- all told.id_of(name) == ids[name]
    refine ⟨b, _, s6 _ _ hb, trivial, fun od3 => ?_⟩
    refine ⟨_, rfl, b, od3, rfl, .inl ⟨dS m2, upd_same, fun D5 hD6 => ?_⟩⟩
    have hDb : D5 ≠ b := fun z => by rw [z, upd_same] at hD6; cases hD6
    have hD6' : H6 D5 = none := by rw [upd_ne hDb] at hD6; exact hD6
    have M6 := M.same s6
    refine lcM (walk_keys (d := b) (o := od3) (kvs := dS m2)) ((m2.map fun _ => true).map V.bl) (by simp [dS_length]) (by rw [dS_length]; omega) (fun acc => by rw [upd_ne (Ne.symm hDb), upd_same]) (fun i x y acc H' hy hY => ?_) ?_
    · obtain ⟨rfl, kk, v, e, rfl⟩ := hY
      obtain ⟨y1, z1, hab, rfl, rfl⟩ := getD e
      rw [List.getElem?_map, List.getElem?_map, hab] at hy
      cases hy
      have lk : m2.lookup y1 = some z1 := lookup_of g2.1 (List.mem_of_getElem? hab)
      have MR := M6.frz (od := od3) (x := .lst acc) (s6 _ _ hb) hD6'
      obtain ⟨dx', _, _, _, hh, _⟩ := id MR
      refine ⟨rfl, fun R hR => ⟨rfl, _, rfl, p, dx', _, rfl, hh, flds_no _ _ _ (by decide +kernel) (by decide +kernel) (by decide +kernel), _, rfl, p, m1, m2, y1, z1, rfl, MR, lk, _, rfl, _, rfl, b, _, rfl, dget_R (rd_frz (s6 _ _ hb) (s6 _ _ hb) hD6') lk, rfl, ?_⟩⟩
      rw [decide_eq_true rfl]
      exact hR
    refine ⟨by rw [upd_ne (Ne.symm hDb), upd_same], ?_⟩
    rw [lock_back (s6 _ _ hb) hDb]
    refine ⟨D5, _, rfl, SqL.of upd_same, ?_⟩
    rw [al2]
    exact k _ (Same.new s6 hD6')
end
end WW
namespace WW
open PySem PySem.Spec PyProof.Rows L2 WE
def spFar : Sp := fun vs H Q _ => ∃ (a : Addr) (m : SM) (n : Int), vs = [.ref a, .int n] ∧ H a = some (.dK (dS m)) ∧ Perm1 m ∧ ∀ q H', Same H H' → H q = none → H' q = some (.dK (dS (pz m n))) → Q (.ref q) H'
section
variable {P : Program} {w : World} {K : PySem.W.Frag} {mg : Str → Option Value} {base : Heap} {f C CI W fE : Addr} {fd fdE : FuncData}
abbrev nF : List Str := ["_law_rows", "_law_many", "_law_found", "_law_name", "_law_ring"]
theorem scFr : FnScope nF ["_law_rows", "_law_many"] (defScope sFar) := ⟨rfl, rfl, rfl, by decide +kernel, rfl, by decide +kernel, by decide +kernel⟩
theorem dS_pz_take (m : SM) (n : Int) (i : Nat) : dS ((pz m n).take i) = (m.take i).map fun p => ((Sum.inr p.1 : Key), V.str (iz m n p.1)) := by
  unfold dS pz keys
  rw [← List.map_take, ← List.map_take, List.map_map, List.map_map]
  rfl
def ringOf (m : SM) (x : Str) (j : Nat) : List Str := (List.range (j + 1)).map fun i => it (img m) i x
theorem ringOf_len (m : SM) (x : Str) (j : Nat) : (ringOf m x j).length = j + 1 := by unfold ringOf; rw [List.length_map, List.length_range]
theorem ringOf_at {m : SM} {x : Str} {j i : Nat} (h : i ≤ j) : (ringOf m x j)[i]? = some (it (img m) i x) := by
  unfold ringOf
  rw [List.getElem?_map, List.getElem?_range (by omega)]
  rfl
theorem ringOf_succ (m : SM) (x : Str) (j : Nat) : ringOf m x (j + 1) = ringOf m x j ++ [it (img m) (j + 1) x] := by
  unfold ringOf
  rw [List.range_succ (n := j + 1), List.map_append]
  rfl
theorem ok_far (F : Fun K "_law_far" "_law_far" sFar f fd) (B : Blt mg) : FnOk P w K mg base CX0 1 f fd ["_law_rows", "_law_many"] spFar := by
  refine F.ok scFr (fun vs H Q E h => ?_) (fun cdv A outer s H vs Q E hr h => ?_)
  · obtain ⟨a, m, n, rfl, _⟩ := h
    rfl
  · obtain ⟨a, m, n, rfl, ha, h1, k⟩ := h
    have hu := hu_of hr
    refine ⟨_, pss_cons (ps_set (i := 2) scFr.nd rfl (Or.inl rfl) pe_dnewK)
      (pss_cons (ps_lock (ps_for PassesOwn.never rfl (pi_keys (pv 0)) (pg_name (i := 3) scFr.nd rfl (Or.inl rfl))
        (pss_cons (ps_set (i := 4) scFr.nd rfl (Or.inl rfl) (pe_lst (pa_cons (pv 3) pa_nil)))
        (pss_cons (ps_while PassesOwn.never (pt_cmpR op_ne (pe_dget hu (pv 0) (pe_ix ix_list (pv 4) (pe_op op_sub (pe_callB call_len_seq (by rfl) B.len PySem.boot_len (pa_cons (pv 4) pa_nil)) pe_int) (fun _ _ => rfl)) (fun _ _ => rfl)) (pv 3) (nomark _))
          (pss_one (ps_expr (pe_bm PySem.F.plainAttrs_list PySem.F.slot_list_append PySem.F.type_list_append mt_append (pv 4) (pa_cons (pe_dget hu (pv 0) (pe_ix ix_list (pv 4) (pe_op op_sub (pe_callB call_len_seq (by rfl) B.len PySem.boot_len (pa_cons (pv 4) pa_nil)) pe_int) (fun _ _ => rfl)) (fun _ _ => rfl)) pa_nil)))))
        (pss_one (ps_dput hu (pv 2) (pv 3) (pe_ix ix_list (pv 4) (pe_op op_mod (pe_callTy call_int1 (by rfl) B.int (by decide +kernel) (pa_cons (pv 1) pa_nil)) (pe_callB call_len_seq (by rfl) B.len PySem.boot_len (pa_cons (pv 4) pa_nil))) (fun _ _ => rfl)) rfl))))))
      (pss_one (ps_ret (pv 2)))), ?_⟩
    intro D hD
    have hDa : a ≠ D := ne_of_none ha hD
    have len : m.length < 64 := h1.g.2.2
    refine ⟨a, .dK (dS m), by rw [upd_ne hDa]; exact ha, trivial, fun od => ?_⟩
    refine ⟨_, rfl, a, od, rfl, .inl ⟨dS m, upd_same, ?_⟩⟩
    refine for_it (walk_keys (d := a) (o := od) (kvs := dS m)) (fun i σ H' => ∃ v3 v4 : Option V, σ = [some (.ref a), some (.int n), some (.ref D), v3, v4] ∧ (∀ c o, H c = some o → c ≠ a → H' c = some o) ∧ H' a = some (.frz od (.dK (dS m))) ∧ H' D = some (.dK (dS ((pz m n).take i)))) ?_ ?_ ?_ ?_
    · exact ⟨none, none, rfl, fun c o e nc => by rw [upd_ne nc, upd_ne (ne_of_none e hD)]; exact e, upd_same, by rw [upd_ne (Ne.symm hDa), upd_same]; simp [dS]⟩
    · rintro i σ H1 hi ⟨_, _, _, _, e, _⟩
      exact e
    · rintro i x σ H1 H2 hi ⟨v3, v4, rfl, kp, ea, eD⟩ ⟨rfl, kk, v, e, rfl⟩
      obtain ⟨y, z, hab, rfl, rfl⟩ := getD e
      have mem : (y, z) ∈ m := List.mem_of_getElem? hab
      have hy : y ∈ keys m := List.mem_map.mpr ⟨_, mem, rfl⟩
      obtain ⟨L0, hL0, hLm, eL⟩ := ring_ex h1 hy
      -- ring = [name]
      refine ⟨_, rfl, by show 1 ≤ sizeLine; decide, fun Rg hRg => ?_⟩
      have hRa : Rg ≠ a := fun q => by rw [q, ea] at hRg; cases hRg
      have hRD : Rg ≠ D := fun q => by rw [q, eD] at hRg; cases hRg
      -- while
      refine ⟨fun mm σ' H' => ∃ jj, mm = L0 - jj ∧ jj < L0 ∧ σ' = [some (.ref a), some (.int n), some (.ref D), some (.str y), some (.ref Rg)] ∧ (∀ c o, H c = some o → c ≠ a → H' c = some o) ∧ H' a = some (.frz od (.dK (dS m))) ∧ H' D = some (.dK (dS ((pz m n).take i))) ∧ H' Rg = some (.lst ((ringOf m y jj).map V.str)), ⟨_, 0, rfl, hL0, rfl, ?_, ?_, ?_, ?_⟩, ?_⟩
      · intro c o e nc
        have := kp c o e nc
        rw [upd_ne (ne_of_none this hRg)]
        exact this
      · rw [upd_ne (Ne.symm hRa)]; exact ea
      · rw [upd_ne (Ne.symm hRD)]; exact eD
      · rw [upd_same]; rfl
      rintro mm _ H3 ⟨jj, rfl, hjj, rfl, kp3, ea3, eD3, eR3⟩
      have hc : it (img m) jj y ∈ keys m := h1.itc jj hy
      have lastR : atI ((ringOf m y jj).map V.str) ((((ringOf m y jj).map V.str).length : Int) - 1) = some (.str (it (img m) jj y)) := by
        have e : (((ringOf m y jj).map V.str).length : Int) - 1 = ((jj : Nat) : Int) := by rw [List.length_map, ringOf_len]; omega
        rw [e]
        refine atI_nat ?_
        rw [List.getElem?_map, ringOf_at (Nat.le_refl _)]
        rfl
      have dg : DGet H3 a (.str (it (img m) jj y)) (some (.str (it (img m) (jj + 1) y))) := by
        rw [it_succ]
        exact dget_R (.inr ⟨od, ea3⟩) (lookup_img hc)
      refine ⟨_, rfl, _, rfl, _, rfl, Rg, _, rfl, .inl (SqL.of eR3), _, _, rfl, rfl, Rg, _, _, _, rfl, rfl, SqL.of eR3, lastR, a, _, rfl, dg, _, rfl, rfl, _, rfl, ?_⟩
      by_cases hz : it (img m) (jj + 1) y = y
      · show (if (!decide (V.str (it (img m) (jj + 1) y) = V.str y)) = true then _ else _)
        rw [hz, decide_eq_true rfl]
        refine iteF ?_
        -- found[name] = ring[many % len(ring)]
        have hl1 : (((ringOf m y jj).map V.str).length : Int) = ((jj + 1 : Nat) : Int) := by rw [List.length_map, ringOf_len]
        have h0 : (0 : Int) < (((ringOf m y jj).map V.str).length : Int) := by rw [hl1]; omega
        refine ⟨_, rfl, _, rfl, .inl ⟨n, rfl, _, rfl, Rg, _, rfl, .inl (SqL.of eR3), _, _, rfl, rfl, h0, Rg, _, _, .str (iz m n y), rfl, rfl, SqL.of eR3, ?_, ?_⟩⟩
        · rw [hl1]
          have hr0 := Int.emod_nonneg n (show ((jj + 1 : Nat) : Int) ≠ 0 by omega)
          have hr1 := Int.emod_lt_of_pos n (show (0 : Int) < ((jj + 1 : Nat) : Int) by omega)
          have e : n % ((jj + 1 : Nat) : Int) = (((n % ((jj + 1 : Nat) : Int)).toNat : Nat) : Int) := by omega
          rw [e]
          refine atI_nat ?_
          rw [List.getElem?_map, ringOf_at (by omega), iz_ring h1 hy (by omega) hz]
          rfl
        refine ⟨_, rfl, _, rfl, D, _, rfl, DPut.k (k := Sum.inr y) eD3 (small1000 (by rw [dS_length, List.length_take]; unfold pz keys; rw [List.length_map, List.length_map]; omega)), ?_⟩
        refine ⟨_, _, rfl, fun c o e nc => by rw [upd_ne (ne_of_none e hD)]; exact kp3 c o e nc, by rw [upd_ne hDa]; exact ea3, ?_⟩
        rw [upd_same, dS_pz_take, dS_pz_take]
        exact congrArg (fun z => some (HO.dK z)) (putK_map (fun p : Str × Str => (Sum.inr p.1 : Key)) (fun p => V.str (iz m n p.1)) (by have := nodup_inr h1.g.1; rw [List.map_map] at this; exact this) hab).symm
      · show (if (!decide (V.str (it (img m) (jj + 1) y) = V.str y)) = true then _ else _)
        rw [show decide (V.str (it (img m) (jj + 1) y) = V.str y) = false from decide_eq_false (by intro q; injection q with q; exact hz q)]
        refine iteT ?_
        have hj2 : jj + 1 < L0 := by
          rcases Nat.lt_or_ge (jj + 1) L0 with q | q
          · exact q
          · exact absurd (by rw [show jj + 1 = L0 by omega]; exact eL) hz
        refine ⟨fun σ' H' => ∃ mm', mm' < L0 - jj ∧ ∃ jj, mm' = L0 - jj ∧ jj < L0 ∧ σ' = [some (.ref a), some (.int n), some (.ref D), some (.str y), some (.ref Rg)] ∧ (∀ c o, H c = some o → c ≠ a → H' c = some o) ∧ H' a = some (.frz od (.dK (dS m))) ∧ H' D = some (.dK (dS ((pz m n).take i))) ∧ H' Rg = some (.lst ((ringOf m y jj).map V.str)), fun σ' H' h => h, ?_⟩
        refine ⟨_, rfl, .inl ⟨rfl, _, SqL.of eR3⟩, _, rfl, _, rfl, _, rfl, Rg, _, rfl, .inl (SqL.of eR3), _, _, rfl, rfl, Rg, _, _, _, rfl, rfl, SqL.of eR3, lastR, a, _, rfl, dg, Rg, _, _, rfl, rfl, eR3, small1000 (by rw [List.length_map, ringOf_len]; omega), ?_⟩
        refine ⟨_, ?_, jj + 1, rfl, hj2, rfl, fun c o e nc => ?_, by rw [upd_ne (Ne.symm hRa)]; exact ea3, by rw [upd_ne (Ne.symm hRD)]; exact eD3, by rw [upd_same, ringOf_succ, List.map_append]; rfl⟩
        · omega
        · have h3 := kp c o e nc
          rw [upd_ne (ne_of_none h3 hRg)]
          exact kp3 c o e nc
    · rintro σ H1 ⟨v3, v4, rfl, kp, ea, eD⟩
      rw [List.take_of_length_le (by rw [dS_length]; unfold pz keys; rw [List.length_map, List.length_map]; exact Nat.le_refl _)] at eD
      refine ⟨ea, ?_⟩
      refine ⟨_, rfl, k D _ (fun c o e => ?_) hD (by rw [upd_ne (Ne.symm hDa)]; exact eD)⟩
      by_cases hc : c = a
      · subst hc
        rw [upd_same]
        rw [ha] at e
        exact e
      · rw [upd_ne hc]
        exact kp c o e hc
end
end WW
namespace WW
open PySem PySem.Spec PyProof.Rows L2 WE
/-! ### o.m(e, ..), m may raise, in a try -/
def tMethA (C : Addr) (m : Str) (sp : Sp) (E : L2.St → XK) (ta : TE) (t : TA) : TE := fun σ H Q => ta σ H fun x H1 => ∃ (a dx : Addr) (fs : List (Str × V)), x = .ref a ∧ H1 a = some (.ins C dx fs) ∧ fs.lookup m = none ∧ t σ H1 fun vs H2 => sp (.ref a :: vs) H2 Q (E σ)
theorem pe_methA {X : Cx} {CX : CXT} {k : Nat} {f C : Addr} {fd : FuncData} {ps : List Str} {sp : Sp} {E : L2.St → XK} {m : Str} {pos apos : Pos} {e o : Expr} {es : List Expr} {ta : TE} {t : TA} {pl : Sem Bool} (he : PE X o ta) (c : Cls X.K C) (hm : Meth X.K C m f) (F : FnOk X.prog X.w X.K X.mg X.base CX k f fd ps sp) (hr : Room k X.A) (hb : L2.Binds X.K fd ps []) (hx : ∀ σ, PassesAt CX X σ (E σ)) (ha : PA X (e :: es) t)
    (hst : starEach (e :: es) X.env = (false, eval e X.env) :: starEach es X.env := by rfl) (hpl : (backTo pos (starEach es X.env)).any (·.1) = false := by rfl)
    (ht : eval (.Call (.Attribute o m apos) (e :: es) [] pos) X.env = (do
      let ov ← eval o X.env
      standAt apos.atName
      let (f, first) ← holding [ov] (getMethod ov m pl)
      callWith pos f first (backTo pos (starEach (e :: es) X.env)) (backToKw pos (keywordEach [] X.env))) := by rfl) :
    PE X (.Call (.Attribute o m apos) (e :: es) [] pos) (tMethA C m sp E ta t) := by
  refine ⟨fun pins s σ H Q I h => ?_⟩
  refine PySem.W.methodCall_KW (pl := pl) (thn (he.run pins s σ H _ I h) fun u s1 ⟨x, H1, I1, rx, a, dx, fs, ex, ea, l, q⟩ => ?_) ht
  subst ex
  obtain rfl : u = Value.ref a := rx
  refine getmeth_ok I1 ea c hm l ?_
  refine PySem.W.callWith_K (first := [.ref a]) (h₀ := X.base) I.ok.mod.kin hm.kp (thn (ha.run pos pins s1 σ H1 _ I1 q) fun us s2 ⟨vs, H2, I2, r, q2⟩ => ⟨I2.kIn, ?_⟩) hst hpl
  exact run_fnS (us := .ref a :: us) (vs := .ref a :: vs) F hr hb (hx σ) I2 (.cons rfl r) q2
theorem passLx {X : Cx} : Passes (L2.CX X.prog X.w) X (fun _ _ _ => False) := fun _ _ _ _ _ _ _ h => by
  obtain ⟨_, _, _, _, _, _, _, _, _, _, _, _, z⟩ := h
  exact z.elim
def spRefused (C : Addr) : Sp := fun vs H Q _ => ∃ (p : Addr) (m1 m2 : SM) (t : Int), vs = [.ref p, .int t] ∧ MatchAt C H p m1 m2 ∧ fitB m1 m2 m1 m2 = false ∧ ∀ H', Same H H' → Q (.bl true) H'
section
variable {P : Program} {w : World} {K : PySem.W.Frag} {mg : Str → Option Value} {base : Heap} {f C CI W fE : Addr} {fd fdE : FuncData}
abbrev nRf : List Str := ["_law_one", "_law_many", "e"]
theorem scRf : FnScope nRf ["_law_one", "_law_many"] (defScope sRefused) := ⟨rfl, rfl, rfl, by decide +kernel, rfl, by decide +kernel, by decide +kernel⟩
theorem ok_refused {fP : Addr} {fdP : FuncData} (F : Fun K "_law_refused" "_law_refused" sRefused f fd) (T : MTxt K mg C) (TE : ErrTxt K mg CI W fE) (xf : XfC K CI) (xm : PySem.W.exmOne K (.ref CI) (.ref CI) = some true)
    (mP : Meth K C "power" fP) (GP : FnOk P w K mg base (L2.CX P w) 6 fP fdP ["self", "times"] (spPower C CI)) (bP : L2.Binds K fdP ["self", "times"] []) :
    FnOk P w K mg base CX0 7 f fd ["_law_one", "_law_many"] (spRefused C) := by
  refine F.ok scRf (fun vs H Q E h => ?_) (fun cdv A outer s H vs Q E hr h => ?_)
  · obtain ⟨p, m1, m2, t, rfl, _⟩ := h
    rfl
  · obtain ⟨p, m1, m2, t, rfl, M, hf, k⟩ := h
    refine ⟨_, pss_one (ps_try_as (i := 2) (tb := fun W => tRet (tOp (fun x y H Q => y = .non ∧ Q (.bl (decide (x = .non))) H) (tMethA C "power" (spPower C CI) (L2.WE W) (tVar 0) (tCons (tVar 1) tNil)) (tC .non))) (ts := fun a cls d => tRet (tOp rEq (tXf a cls d CI "given" (tVar 2)) (tVar 1))) (Wout := fun _ _ _ _ => False) rfl rfl scRf.nd rfl rfl ⟨rfl, by decide, Or.inl TE.gC⟩ takes_none5
          (fun W pn xe tk _ => pss_one (ps_ret (pe_cmpR op_isN (pe_methA (pv 0) T.cl mP GP hr bP (fun σ => passAt tk σ) (pa_cons (pv 1) pa_nil)) pe_non (nomark _))))
          (fun a oe cls d pn hz hf => pss_one (ps_ret (pe_cmpR op_eq (pe_xf xf TE.no hz hf (pv 2)) (pv 1) (nomark _))))), ?_⟩
    obtain ⟨dx, d1, d2, l, ts, h1, h2, h3, h4, h5⟩ := id M.ex
    refine ⟨_, rfl, p, dx, _, rfl, h1, flds_no _ _ _ (by decide +kernel) (by decide +kernel) (by decide +kernel), _, rfl, p, m1, m2, t, rfl, M, .inr ⟨hf, fun d H' s' hd hd' => ?_⟩⟩
    refine ⟨true, xm, fun _ a ha => ?_, fun q => Bool.noConfusion q⟩
    refine ⟨_, rfl, rfl, rfl, d, _, _, rfl, hd', rfl, _, rfl, ?_⟩
    refine ⟨rfl, ?_⟩
    show Q (.bl (decide (V.int t = V.int t))) H'
    rw [decide_eq_true rfl]
    exact k _ s'
end
end WW
namespace WW
open PySem PySem.Spec PyProof.Rows L2 WE
def spLaw (K : PySem.W.Frag) : Sp := fun vs H Q _ => ∃ (a : Addr) (zs : List Int), vs = [.ref a] ∧ SqL K H a (zs.map V.int) ∧ ∀ H', Q (.bl true) H'
/-- a def of the module: where it stands, its promise -/
structure FnAt (P : Program) (w : World) (K : PySem.W.Frag) (mg : Str → Option Value) (base : Heap) (k : Nat) (x : Str) (ps : List Str) (sp : Sp) : Prop where
  ex : ∃ f fd, mg x = some (.ref f) ∧ PySem.W.keepIn K (.ref f) = true ∧ FnOk P w K mg base CX0 k f fd ps sp ∧ L2.Binds K fd ps []
/-- a method -/
structure MtAt (P : Program) (w : World) (K : PySem.W.Frag) (mg : Str → Option Value) (base : Heap) (C : Addr) (k : Nat) (m : Str) (ps : List Str) (sp : Sp) : Prop where
  ex : ∃ f fd, Meth K C m f ∧ FnOk P w K mg base CX0 k f fd ps sp ∧ L2.Binds K fd ps []
/-- a method that may raise -/
structure MtAtX (P : Program) (w : World) (K : PySem.W.Frag) (mg : Str → Option Value) (base : Heap) (C : Addr) (k : Nat) (m : Str) (ps : List Str) (sp : Sp) : Prop where
  ex : ∃ f fd, Meth K C m f ∧ FnOk P w K mg base (L2.CX P w) k f fd ps sp ∧ L2.Binds K fd ps []
abbrev nL : List Str := ["_law_script", "_law_state", "_law_nets", "_law_ids", "_law_rows", "_law_many", "_law_one", "_law_away", "_law_apart"]
theorem pz_refl {m : SM} (h : Perm1 m) (n : Int) : dEq (pz m n) (pz m n) = true := dEq_refl (pz_gd h n)
theorem fit_away : fitB [("a0", "c0")] [] [("a0", "c0")] [] = false := by decide +kernel
theorem fit_apart (m : SM) : fitB m [("b0", "c0")] m [("b0", "c0")] = false := by
  unfold fitB
  rw [show decide (sortS (vals [(("b0" : Str), ("c0" : Str))]) = sortS (keys [(("b0" : Str), ("c0" : Str))])) = false by decide +kernel, Bool.and_false]
theorem pz_far (m : SM) (n : Int) : pz m (n + 3) = pz m (n + 1 + 1 + 1) := by congr 1; omega
theorem idB_pz0 (m : SM) : idB (pz m 0) = true := by
  unfold idB
  rw [List.all_eq_true]
  exact fun p hp => decide_eq_true (pz_zero_id p hp).symm
theorem gd_one (x y : Str) : Gd [(x, y)] := ⟨by simp, by simp, by show 1 < 64; decide⟩
section
variable {P : Program} {w : World} {K : PySem.W.Frag} {mg : Str → Option Value} {base : Heap} {f C CI : Addr} {fd : FuncData}
theorem scW : FnScope nL ["_law_script"] (defScope sLaw) := ⟨rfl, rfl, rfl, by decide +kernel, rfl, by decide +kernel, by decide +kernel⟩
theorem ok_law {fE fdE fX fdX pX fN} (F : Fun K "law" "law" sLaw f fd) (T : MTxt K mg C) (B : Blt mg) (hSF : PySem.W.selfFirst K C = true)
    (g1 : FnAt P w K mg base 1 "_law_start" ["_law_script"] (spStart K)) (g2 : FnAt P w K mg base 1 "_law_draw" ["_law_state", "_law_many"] spDraw) (g3 : FnAt P w K mg base 2 "_law_names" ["_law_state", "_law_many", "_law_letter"] spNames)
    (g4 : FnAt P w K mg base 2 "_law_map" ["_law_state", "_law_names_here", "_law_targets"] spMap) (g5 : FnAt P w K mg base 1 "_law_far" ["_law_rows", "_law_many"] spFar) (g6 : FnAt P w K mg base 7 "_law_refused" ["_law_one", "_law_many"] (spRefused C))
    (g7 : FnAt P w K mg base 4 "_law_holds" ["_law_told", "_law_nets", "_law_ids"] (spHolds C)) (m1 : MtAt P w K mg base C 5 "__mul__" ["self", "other"] (spMul C)) (m2 : MtAt P w K mg base C 5 "__invert__" ["self"] (spInv C))
    (m3 : MtAtX P w K mg base C 6 "power" ["self", "times"] (spPower C CI)) (e1 : EqTxt K C fE) (GM : FnOk P w K mg base CX0 1 fE fdE ["self", "other"] (spEqM C)) (bE : L2.Binds K fdE ["self", "other"] [])
    (hX : PropOf K C "is_identity" pX fX) (GX : FnOk P w K mg base CX0 1 fX fdX ["self"] (spIsId C)) (bX : L2.Binds K fdX ["self"] []) (MK : Mk K C fN) (gN : ∃ fdN, FnOk P w K mg base CX0 3 fN fdN ["self", "nets", "ids"] (spInit C) ∧ L2.Binds K fdN ["self", "nets", "ids"] []) :
    FnOk P w K mg base CX0 8 f fd ["_law_script"] (spLaw K) := by
  obtain ⟨f1, fd1, mg1, kp1, G1, b1⟩ := g1.ex
  obtain ⟨f2, fd2, mg2, kp2, G2, b2⟩ := g2.ex
  obtain ⟨f3, fd3, mg3, kp3, G3, b3⟩ := g3.ex
  obtain ⟨f4, fd4, mg4, kp4, G4, b4⟩ := g4.ex
  obtain ⟨f5, fd5, mg5, kp5, G5, b5⟩ := g5.ex
  obtain ⟨f6, fd6, mg6, kp6, G6, b6⟩ := g6.ex
  obtain ⟨f7, fd7, mg7, kp7, G7, b7⟩ := g7.ex
  obtain ⟨u1, ud1, um1, U1, ub1⟩ := m1.ex
  obtain ⟨u2, ud2, um2, U2, ub2⟩ := m2.ex
  obtain ⟨u3, ud3, um3, U3, ub3⟩ := m3.ex
  obtain ⟨fdN, GN, bN⟩ := gN
  refine F.ok scW (fun vs H Q E h => ?_) (fun cdv A outer s H vs Q E hr h => ?_)
  · obtain ⟨a, zs, rfl, _⟩ := h
    rfl
  · obtain ⟨a, zs, rfl, hS, k⟩ := h
    have hu := hu_of hr
    have hu0 : _ < _ := hr.units0
    have r1 : Room 1 _ := hr.mono (by decide)
    have r2 : Room 2 _ := hr.mono (by decide)
    have r4 : Room 4 _ := hr.mono (by decide)
    have r5 : Room 5 _ := hr.mono (by decide)
    have r6 : Room 6 _ := hr.mono (by decide)
    refine ⟨_, (pss_cons (ps_set (i := 1) scW.nd rfl (Or.inl rfl) (pe_call G1 r1 (by rfl) mg1 kp1 b1 .nil pass0 (pa_cons (pv 0) pa_nil)))
      (pss_cons (ps_set (i := 2) scW.nd rfl (Or.inl rfl) (pe_call G3 r2 (by rfl) mg3 kp3 b3 .nil pass0 (pa_cons (pv 1) (pa_cons (pe_call G2 r1 (by rfl) mg2 kp2 b2 .nil pass0 (pa_cons (pv 1) (pa_cons pe_int pa_nil))) (pa_cons pe_str pa_nil)))))
      (pss_cons (ps_set (i := 3) scW.nd rfl (Or.inl rfl) (pe_call G3 r2 (by rfl) mg3 kp3 b3 .nil pass0 (pa_cons (pv 1) (pa_cons (pe_call G2 r1 (by rfl) mg2 kp2 b2 .nil pass0 (pa_cons (pv 1) (pa_cons pe_int pa_nil))) (pa_cons pe_str pa_nil)))))
      (pss_cons (ps_set (i := 4) scW.nd rfl (Or.inl rfl) (pe_lst (pa_cons (pe_call G4 r2 (by rfl) mg4 kp4 b4 .nil pass0 (pa_cons (pv 1) (pa_cons (pv 2) (pa_cons (pv 2) pa_nil)))) (pa_cons (pe_call G4 r2 (by rfl) mg4 kp4 b4 .nil pass0 (pa_cons (pv 1) (pa_cons (pv 3) (pa_cons (pv 3) pa_nil)))) pa_nil))))
      (pss_cons (ps_set (i := 5) scW.nd rfl (Or.inl rfl) (pe_call G2 r1 (by rfl) mg2 kp2 b2 .nil pass0 (pa_cons (pv 1) (pa_cons (pe_ix ix_list (pe_lst (pa_cons pe_int (pa_cons pe_int (pa_cons (pe_op op_pow pe_int pe_int) pa_nil)))) (pe_call G2 r1 (by rfl) mg2 kp2 b2 .nil pass0 (pa_cons (pv 1) (pa_cons pe_int pa_nil))) (fun _ _ => rfl)) pa_nil))))
      (C8.pss_cut (ps_if (pt_cmpR op_eq (pe_call G2 r1 (by rfl) mg2 kp2 b2 .nil pass0 (pa_cons (pv 1) (pa_cons pe_int pa_nil))) pe_int (nomark _)) (pss_one (ps_set (i := 5) scW.nd rfl (Or.inl rfl) (pe_op op_sub pe_int (pv 5)))) pss_nil)
      (pss_cons (ps_set (i := 6) scW.nd rfl (Or.inl rfl) (pe_make MK GN r4 (by rfl) T.mgC bN .nil pass0 (pa_cons (pe_callTy call_dictD (by rfl) B.dict (by decide +kernel) (pa_cons (pe_ix ix_list (pv 4) pe_int (fun _ _ => rfl)) pa_nil)) (pa_cons (pe_callTy call_dictD (by rfl) B.dict (by decide +kernel) (pa_cons (pe_ix ix_list (pv 4) pe_int (fun _ _ => rfl)) pa_nil)) pa_nil))))
      (C8.pss_cut (ps_if (pt_not (pt_val (pe_call G7 r4 (by rfl) mg7 kp7 b7 .nil pass0 (pa_cons (pe_meth (pv 6) T.cl um3 U3 r6 ub3 .nil passLx (pa_cons (pv 5) pa_nil)) (pa_cons (pe_call G5 r1 (by rfl) mg5 kp5 b5 .nil pass0 (pa_cons (pe_ix ix_list (pv 4) pe_int (fun _ _ => rfl)) (pa_cons (pv 5) pa_nil))) (pa_cons (pe_call G5 r1 (by rfl) mg5 kp5 b5 .nil pass0 (pa_cons (pe_ix ix_list (pv 4) pe_int (fun _ _ => rfl)) (pa_cons (pv 5) pa_nil))) pa_nil)))))) (pss_one (ps_ret pe_bl)) pss_nil)
      (C8.pss_cut (ps_if (PW.pt (pw_or (pt_not (pt_val (pe_call G7 r4 (by rfl) mg7 kp7 b7 .nil pass0 (pa_cons (pe_meth (pv 6) T.cl um3 U3 r6 ub3 .nil passLx (pa_cons pe_int pa_nil)) (pa_cons (pe_call G5 r1 (by rfl) mg5 kp5 b5 .nil pass0 (pa_cons (pe_ix ix_list (pv 4) pe_int (fun _ _ => rfl)) (pa_cons pe_int pa_nil))) (pa_cons (pe_call G5 r1 (by rfl) mg5 kp5 b5 .nil pass0 (pa_cons (pe_ix ix_list (pv 4) pe_int (fun _ _ => rfl)) (pa_cons pe_int pa_nil))) pa_nil)))))) (pw_or1 (pt_cmpR op_notBl (pe_prop (pe_meth (pv 6) T.cl um3 U3 r6 ub3 .nil passLx (pa_cons pe_int pa_nil)) T.cl hX GX r2 bX .nil pass0 rfl) pe_bl (nomark _))))) (pss_one (ps_ret pe_bl)) pss_nil)
      (C8.pss_cut (ps_if (PW.pt (pw_or (pt_cmpR (op_neO e1 GM r2 bE pass0) (pe_meth (pv 6) T.cl um3 U3 r6 ub3 .nil passLx (pa_cons (pe_op op_add (pv 5) pe_int) pa_nil)) (pe_op (op_own (op := .Mult) hSF um1 U1 r5 ub1 pass0) (pe_op (op_own (op := .Mult) hSF um1 U1 r5 ub1 pass0) (pe_op (op_own (op := .Mult) hSF um1 U1 r5 ub1 pass0) (pe_meth (pv 6) T.cl um3 U3 r6 ub3 .nil passLx (pa_cons (pv 5) pa_nil)) (pv 6)) (pv 6)) (pv 6)) (nomark _))
          (pw_or1 (pt_cmpR (op_neO e1 GM r2 bE pass0) (pe_meth (pv 6) T.cl um3 U3 r6 ub3 .nil passLx (pa_cons (pe_op op_sub pe_int (pv 5)) pa_nil)) (pe_un (un_own um2 U2 r5 ub2 pass0) (pe_meth (pv 6) T.cl um3 U3 r6 ub3 .nil passLx (pa_cons (pv 5) pa_nil))) (nomark _))))) (pss_one (ps_ret pe_bl)) pss_nil)
      (pss_cons (ps_set (i := 7) scW.nd rfl (Or.inl rfl) (pe_make MK GN r4 (by rfl) T.mgC bN .nil pass0 (pa_cons (pe_disp (pps_cons pe_str pe_str pps_nil) rfl rfl (by decide) (by decide)) (pa_cons pe_dnewK pa_nil))))
      (pss_cons (ps_set (i := 8) scW.nd rfl (Or.inl rfl) (pe_make MK GN r4 (by rfl) T.mgC bN .nil pass0 (pa_cons (pe_callTy call_dictD (by rfl) B.dict (by decide +kernel) (pa_cons (pe_ix ix_list (pv 4) pe_int (fun _ _ => rfl)) pa_nil)) (pa_cons (pe_disp (pps_cons pe_str pe_str pps_nil) rfl rfl (by decide) (by decide)) pa_nil))))
      (pss_cons (ps_if (PW.pt (pw_or (pt_not (pt_val (pe_call G6 hr (by rfl) mg6 kp6 b6 .nil pass0 (pa_cons (pv 7) (pa_cons (pv 5) pa_nil))))) (pw_or1 (pt_not (pt_val (pe_call G6 hr (by rfl) mg6 kp6 b6 .nil pass0 (pa_cons (pv 8) (pa_cons (pv 5) pa_nil)))))))) (pss_one (ps_ret pe_bl)) pss_nil)
      (pss_one (ps_ret (pe_call G7 r4 (by rfl) mg7 kp7 b7 .nil pass0 (pa_cons (pv 6) (pa_cons (pe_ix ix_list (pv 4) pe_int (fun _ _ => rfl)) (pa_cons (pe_ix ix_list (pv 4) pe_int (fun _ _ => rfl)) pa_nil))))))))))))))))))), ?_⟩
    -- state
    refine ⟨_, rfl, a, zs, rfl, hS, fun S L H1 s1 hSn ST1 => ?_⟩
    -- nets, ids
    refine ⟨_, rfl, _, rfl, S, L, 7, rfl, ST1, by decide, by decide, fun d1 H2 d10 d16 ST2 sb2 => ?_⟩
    have ed1 : d1 = ((d1.toNat : Nat) : Int) := by omega
    refine ⟨S, L, d1.toNat, "a", by rw [← ed1]; rfl, ST2, by omega, by decide, fun q0 H3 xs ST3 sb3 hq0 hq0S eq0 nm1 ln1 => ?_⟩
    refine ⟨_, rfl, _, rfl, S, L, 5, rfl, ST3, by decide, by decide, fun d2 H4 d20 d26 ST4 sb4 => ?_⟩
    have ed2 : d2 = ((d2.toNat : Nat) : Int) := by omega
    refine ⟨S, L, d2.toNat, "b", by rw [← ed2]; rfl, ST4, by omega, by decide, fun p0 H5 ys ST5 sb5 hp0 hp0S ep0 nm2 ln2 => ?_⟩
    have eq5 : H5 q0 = some (.lst (xs.map V.str)) := sb5 _ _ (sb4 _ _ eq0 hq0S) hq0S
    -- rows
    refine ⟨_, rfl, _, rfl, _, rfl, S, L, q0, q0, xs, xs, rfl, ST5, eq5, eq5, hq0S, hq0S, by omega, rfl, nm1.nodup, fun t0 H6 m1 ST6 sb6 ht0n ht0S et0 km1 vm1 => ?_⟩
    have ep6 : H6 p0 = some (.lst (ys.map V.str)) := sb6 _ _ ep0 hp0S
    refine ⟨_, rfl, _, rfl, _, rfl, S, L, p0, p0, ys, ys, rfl, ST6, ep6, ep6, hp0S, hp0S, by omega, rfl, nm2.nodup, fun t1 H7 m2 ST7 sb7 ht1n ht1S et1 km2 vm2 => ⟨by show 2 ≤ sizeLine; decide, fun R hR => ?_⟩⟩
    have P1 : Perm1 m1 := ⟨⟨by show (keys m1).Nodup; rw [km1]; exact nm1.nodup, vm1.nodup_iff.mpr nm1.nodup, by have := congrArg List.length km1; unfold keys at this; rw [List.length_map] at this; omega⟩, by rw [km1]; exact vm1⟩
    have P2 : Perm1 m2 := ⟨⟨by show (keys m2).Nodup; rw [km2]; exact nm2.nodup, vm2.nodup_iff.mpr nm2.nodup, by have := congrArg List.length km2; unfold keys at this; rw [List.length_map] at this; omega⟩, by rw [km2]; exact vm2⟩
    generalize eH8 : upd H7 R (.lst [.ref t0, .ref t1]) = H8
    have s78 : Same H7 H8 := by rw [← eH8]; exact Same.put hR
    have ST8 : StAt H8 S L := ST7.same s78
    have eR8 : H8 R = some (.lst [.ref t0, .ref t1]) := by rw [← eH8]; exact upd_same
    have hRS : R ≠ S := by
      obtain ⟨i, r, z, h, _⟩ := ST7.st
      exact fun q => by rw [q, h] at hR; cases hR
    have e08 : H8 t0 = some (.dK (dS m1)) := s78 _ _ (sb7 _ _ et0 ht0S)
    have e18 : H8 t1 = some (.dK (dS m2)) := s78 _ _ et1
    -- many
    refine ⟨_, rfl, _, _, rfl, rfl, ⟨by decide, by decide, by decide⟩, by show 3 ≤ sizeLine; decide, fun Z hZ => ?_⟩
    generalize eH9 : upd H8 Z _ = H9
    have s89 : Same H8 H9 := by rw [← eH9]; exact Same.put hZ
    have ST9 : StAt H9 S L := ST8.same s89
    have eZ9 : H9 Z = some (.lst [.int 10, .int 1000, .int (10 ^ (59 : Int).toNat)]) := by rw [← eH9]; exact upd_same
    have hZS : Z ≠ S := by
      obtain ⟨i, r, z, h, _⟩ := ST8.st
      exact fun q => by rw [q, h] at hZ; cases hZ
    refine ⟨_, rfl, S, L, 3, rfl, ST9, by decide, by decide, fun d3 H10 d30 d36 ST10 sb10 => ?_⟩
    have eZ10 := sb10 _ _ eZ9 hZS
    have hsz : ∃ sz : Int, atI [V.int 10, V.int 1000, V.int (10 ^ (59 : Int).toNat)] d3 = some (.int sz) ∧ 0 < sz ∧ sz < 2 ^ 200 := by
      have : d3 = 0 ∨ d3 = 1 ∨ d3 = 2 := by omega
      rcases this with rfl | rfl | rfl
      · exact ⟨10, rfl, by decide, by decide⟩
      · exact ⟨1000, rfl, by decide, by decide⟩
      · exact ⟨10 ^ (59 : Int).toNat, rfl, by decide +kernel, by decide +kernel⟩
    obtain ⟨sz, hat, hsz0, hsz1⟩ := hsz
    refine ⟨Z, _, _, _, rfl, rfl, SqL.of eZ10, hat, S, L, sz, rfl, ST10, hsz0, hsz1, fun d4 H11 d40 d46 ST11 sb11 => ?_⟩
    have sb8 : SameBut S H8 H11 := (SameBut.of s89).trans (sb10.trans sb11)
    -- sign
    refine ⟨fun σ' H' => ∃ t : Int, σ' = [some (.ref a), some (.ref S), some (.ref q0), some (.ref p0), some (.ref R), some (.int t), none, none, none] ∧ SameBut S H8 H', ?_, ?_⟩
    · refine ⟨_, rfl, S, L, 2, rfl, ST11, by decide, by decide, fun d5 H12 d50 d56 ST12 sb12 => ?_⟩
      refine ⟨rfl, _, rfl, ?_⟩
      refine ite2 (fun _ => ?_) (fun _ => ?_)
      · exact ⟨_, rfl, _, _, rfl, rfl, _, rfl, sb8.trans sb12⟩
      · exact ⟨d4, rfl, sb8.trans sb12⟩
    rintro _ HA ⟨t, rfl, sbA⟩
    have fR : HA R = some (.lst [.ref t0, .ref t1]) := sbA _ _ eR8 hRS
    have f0 : HA t0 = some (.dK (dS m1)) := sbA _ _ e08 ht0S
    have f1' : HA t1 = some (.dK (dS m2)) := sbA _ _ e18 ht1S
    -- one
    refine ⟨_, rfl, R, _, _, _, rfl, rfl, SqL.of fR, rfl, t0, dS m1, rfl, .inl f0, fun y0 hy0 => ?_⟩
    have sY0 : Same HA (upd HA y0 (.dK (dS m1))) := Same.put hy0
    refine ⟨_, rfl, R, _, _, _, rfl, rfl, SqL.of (sY0 _ _ fR), rfl, t1, dS m2, rfl, .inl (sY0 _ _ f1'), fun y1 hy1 => ?_⟩
    have y01 : y0 ≠ y1 := fun z => by rw [← z, upd_same] at hy1; cases hy1
    generalize eHB : upd (upd HA y0 (.dK (dS m1))) y1 (.dK (dS m2)) = HB
    have sAB : Same HA HB := by rw [← eHB]; exact Same.new sY0 hy1
    have by0 : HB y0 = some (.dK (dS m1)) := by rw [← eHB, upd_ne y01, upd_same]
    have by1 : HB y1 = some (.dK (dS m2)) := by rw [← eHB, upd_same]
    intro o1 x1 ho1 hx1 nx1
    have sB1 : Same HB (upd (upd HB x1 (.own o1)) o1 (.ins C x1 [])) := Same.new (Same.put hx1) (by rw [upd_ne (Ne.symm nx1)]; exact ho1)
    refine ⟨o1, x1, y0, y1, m1, m2, rfl, upd_same, sB1 _ _ by0, sB1 _ _ by1, P1.g, P2.g, fun HF kpC NC => ⟨rfl, ?_⟩⟩
    have sBC : Same HB HF := fun c o e => kpC c o (sB1 _ _ e) (ne_of_none e ho1)
    have M1 : MatchAt C HF o1 m1 m2 := NC HF fun c o e hc => e
    have sAF : Same HA HF := sAB.trans sBC
    have cR := sAF _ _ fR
    have c0 := sAF _ _ f0
    have c1 := sAF _ _ f1'
    obtain ⟨b1', b2', b3', b4', b5', B1, B2, B3, B4, B5⟩ := id M1.ex
    have nfC : PySem.W.notFirst K C (.ref C) = true := by unfold PySem.W.notFirst; simp
    -- holds(one.power(many), far, far)
    refine ⟨fun σ' J => σ' = [some (.ref a), some (.ref S), some (.ref q0), some (.ref p0), some (.ref R), some (.int t), some (.ref o1), none, none] ∧ Same HF J, ?_, ?_⟩
    · refine ⟨_, rfl, o1, b1', _, rfl, B1, flds_no _ _ _ (by decide +kernel) (by decide +kernel) (by decide +kernel), _, rfl, o1, m1, m2, t, rfl, M1, .inl ⟨P1, P2, fun r J1 j1 hr1 MR => ?_⟩⟩
      refine ⟨_, rfl, R, _, _, _, rfl, rfl, SqL.of (j1 _ _ cR), rfl, _, rfl, t0, m1, t, rfl, j1 _ _ c0, P1, fun w0 J2 j2' hw0 ew0 => ?_⟩
      have j2 := j1.trans j2'
      refine ⟨_, rfl, R, _, _, _, rfl, rfl, SqL.of (j2 _ _ cR), rfl, _, rfl, t1, m2, t, rfl, j2 _ _ c1, P2, fun w1 J3 j3' hw1 ew1 => ?_⟩
      exact ⟨r, w0, w1, pz m1 t, pz m2 t, rfl, (MR.same j2').same j3', j3' _ _ ew0, ew1, fun J4 j4' => ⟨_, rfl, iteF ⟨rfl, (j2.trans j3').trans j4'⟩⟩⟩
    rintro _ J4 ⟨rfl, j4⟩
    -- power(0)
    refine ⟨fun σ' J => σ' = [some (.ref a), some (.ref S), some (.ref q0), some (.ref p0), some (.ref R), some (.int t), some (.ref o1), none, none] ∧ Same HF J, ?_, ?_⟩
    · refine ⟨_, rfl, o1, b1', _, rfl, j4 _ _ B1, flds_no _ _ _ (by decide +kernel) (by decide +kernel) (by decide +kernel), o1, m1, m2, 0, rfl, M1.same j4, .inl ⟨P1, P2, fun r J5 j5' hr1 MR => ?_⟩⟩
      have j5 := j4.trans j5'
      refine ⟨_, rfl, R, _, _, _, rfl, rfl, SqL.of (j5 _ _ cR), rfl, t0, m1, 0, rfl, j5 _ _ c0, P1, fun w0 J6 j6' hw0 ew0 => ?_⟩
      have j6 := j5.trans j6'
      refine ⟨_, rfl, R, _, _, _, rfl, rfl, SqL.of (j6 _ _ cR), rfl, t1, m2, 0, rfl, j6 _ _ c1, P2, fun w1 J7 j7' hw1 ew1 => ?_⟩
      refine ⟨r, w0, w1, pz m1 0, pz m2 0, rfl, (MR.same j6').same j7', j7' _ _ ew0, ew1, fun J8 j8' => ⟨_, rfl, iteF ?_⟩⟩
      have j8 := (j6.trans j7').trans j8'
      refine ⟨_, rfl, o1, b1', _, rfl, j8 _ _ B1, flds_no _ _ _ (by decide +kernel) (by decide +kernel) (by decide +kernel), o1, m1, m2, 0, rfl, M1.same j8, .inl ⟨P1, P2, fun r2 J9 j9' hr2 MR2 => ?_⟩⟩
      obtain ⟨u1', u2', u3', u4', u5', Y1, Y2, Y3, Y4, Y5⟩ := id MR2.ex
      refine ⟨r2, u1', _, rfl, Y1, r2, _, _, rfl, MR2, fun J10 j10 => ?_⟩
      rw [idB_pz0, idB_pz0]
      exact ⟨true, true, rfl, rfl, _, rfl, iteF ⟨rfl, (j8.trans j9').trans j10⟩⟩
    rintro _ J10 ⟨rfl, j10⟩
    -- power(many + 3), power(0 - many)
    refine ⟨fun σ' J => σ' = [some (.ref a), some (.ref S), some (.ref q0), some (.ref p0), some (.ref R), some (.int t), some (.ref o1), none, none] ∧ Same HF J, ?_, ?_⟩
    · refine ⟨_, rfl, o1, b1', _, rfl, j10 _ _ B1, flds_no _ _ _ (by decide +kernel) (by decide +kernel) (by decide +kernel), _, rfl, _, _, rfl, rfl, o1, m1, m2, t + 3, rfl, M1.same j10, .inl ⟨P1, P2, fun r J11 j11' hr1 MR => ?_⟩⟩
      have j11 := j10.trans j11'
      refine ⟨_, rfl, o1, b1', _, rfl, j11 _ _ B1, flds_no _ _ _ (by decide +kernel) (by decide +kernel) (by decide +kernel), _, rfl, o1, m1, m2, t, rfl, M1.same j11, .inl ⟨P1, P2, fun v0 J12 j12' hv0 MV0 => ?_⟩⟩
      have j12 := j11.trans j12'
      obtain ⟨w1, w2, w3, w4, w5, W1, W2, W3, W4, W5⟩ := id MV0.ex
      refine ⟨_, rfl, v0, o1, w1, b1', _, _, rfl, rfl, W1, j12 _ _ B1, v0, o1, _, _, m1, m2, rfl, MV0, M1.same j12, pz_vals P1 t, pz_vals P2 t, fun v1 J13 j13' hv1 MV1 => ?_⟩
      rw [pz_succ P1, pz_succ P2] at MV1
      have j13 := j12.trans j13'
      obtain ⟨w1, w2, w3, w4, w5, W1, W2, W3, W4, W5⟩ := id MV1.ex
      refine ⟨_, rfl, v1, o1, w1, b1', _, _, rfl, rfl, W1, j13 _ _ B1, v1, o1, _, _, m1, m2, rfl, MV1, M1.same j13, pz_vals P1 _, pz_vals P2 _, fun v2 J14 j14' hv2 MV2 => ?_⟩
      rw [pz_succ P1, pz_succ P2] at MV2
      have j14 := j13.trans j14'
      obtain ⟨w1, w2, w3, w4, w5, W1, W2, W3, W4, W5⟩ := id MV2.ex
      refine ⟨_, rfl, v2, o1, w1, b1', _, _, rfl, rfl, W1, j14 _ _ B1, v2, o1, _, _, m1, m2, rfl, MV2, M1.same j14, pz_vals P1 _, pz_vals P2 _, fun v3 J15 j15' hv3 MV3 => ?_⟩
      rw [pz_succ P1, pz_succ P2, ← pz_far, ← pz_far] at MV3
      have j15 := j14.trans j15'
      have MR' := (((MR.same j12').same j13').same j14').same j15'
      obtain ⟨w1, w2, w3, w4, w5, W1, W2, W3, W4, W5⟩ := id MR'.ex
      obtain ⟨x1, x2, x3, x4, x5, X1, X2, X3, X4, X5⟩ := id MV3.ex
      refine ⟨r, w1, _, .ref C, rfl, W1, .inl ⟨v3, x1, _, rfl, X1, rfl⟩, nfC, r, v3, _, _, _, _, rfl, MR', MV3, _, rfl, _, rfl, ?_⟩
      rw [pz_refl P1, pz_refl P2]
      refine iteF ?_
      refine ⟨_, rfl, o1, b1', _, rfl, j15 _ _ B1, flds_no _ _ _ (by decide +kernel) (by decide +kernel) (by decide +kernel), _, rfl, _, _, rfl, rfl, o1, m1, m2, 0 - t, rfl, M1.same j15, .inl ⟨P1, P2, fun r5 J16 j16' hr5 MR5 => ?_⟩⟩
      have j16 := j15.trans j16'
      refine ⟨_, rfl, o1, b1', _, rfl, j16 _ _ B1, flds_no _ _ _ (by decide +kernel) (by decide +kernel) (by decide +kernel), _, rfl, o1, m1, m2, t, rfl, M1.same j16, .inl ⟨P1, P2, fun r6 J17 j17' hr6 MR6 => ?_⟩⟩
      have j17 := j16.trans j17'
      obtain ⟨w1, w2, w3, w4, w5, W1, W2, W3, W4, W5⟩ := id MR6.ex
      refine ⟨r6, w1, _, rfl, W1, r6, _, _, rfl, MR6, fun r7 J18 j18' hr7 MR7 => ?_⟩
      have MR5' := (MR5.same j17').same j18'
      obtain ⟨w1, w2, w3, w4, w5, W1, W2, W3, W4, W5⟩ := id MR5'.ex
      obtain ⟨x1, x2, x3, x4, x5, X1, X2, X3, X4, X5⟩ := id MR7.ex
      refine ⟨r5, w1, _, .ref C, rfl, W1, .inl ⟨r7, x1, _, rfl, X1, rfl⟩, nfC, r5, r7, _, _, _, _, rfl, MR5', MR7, _, rfl, _, rfl, ?_⟩
      rw [Int.zero_sub, pz_inv P1, pz_inv P2]
      exact iteF ⟨rfl, j17.trans j18'⟩
    rintro _ JA ⟨rfl, jA⟩
    -- away
    intro y0 hy0
    refine ⟨upd_same, [(Sum.inr "a0", .str "c0")], rfl, by decide, fun y1 hy1 => ?_⟩
    generalize eJB : upd (upd (upd JA y0 (.dK [])) y0 (.dK (mergeK [] [(Sum.inr "a0", .str "c0")]))) y1 (.dK []) = JB
    have hy1A : JA y1 = none := by
      by_cases q : y1 = y0
      · rw [q]; exact hy0
      · rw [upd_ne q, upd_ne q] at hy1; exact hy1
    have y01 : y0 ≠ y1 := fun z => by rw [← z, upd_same] at hy1; cases hy1
    have sAB : Same JA JB := fun c o e => by rw [← eJB, upd_ne (ne_of_none e hy1A), upd_ne (ne_of_none e hy0), upd_ne (ne_of_none e hy0)]; exact e
    have g0 : JB y0 = some (.dK (dS [("a0", "c0")])) := by rw [← eJB, upd_ne y01, upd_same]; rfl
    have g1 : JB y1 = some (.dK (dS [])) := by rw [← eJB, upd_same]; rfl
    intro o2 x2 ho2 hx2 nx2
    have sB2 : Same JB (upd (upd JB x2 (.own o2)) o2 (.ins C x2 [])) := Same.new (Same.put hx2) (by rw [upd_ne (Ne.symm nx2)]; exact ho2)
    refine ⟨o2, x2, y0, y1, [("a0", "c0")], [], rfl, upd_same, sB2 _ _ g0, sB2 _ _ g1, gd_one _ _, ⟨by simp, by simp, by decide⟩, fun JC kpC NC2 => ⟨rfl, ?_⟩⟩
    have sBC : Same JB JC := fun c o e => kpC c o (sB2 _ _ e) (ne_of_none e ho2)
    have MA : MatchAt C JC o2 [("a0", "c0")] [] := NC2 JC fun c o e hc => e
    have jC : Same HF JC := (jA.trans sAB).trans sBC
    -- apart
    refine ⟨_, rfl, R, _, _, _, rfl, rfl, SqL.of (jC _ _ cR), rfl, t0, dS m1, rfl, .inl (jC _ _ c0), fun z0 hz0 => ?_⟩
    intro z1 hz1
    refine ⟨upd_same, [(Sum.inr "b0", .str "c0")], rfl, by decide, ?_⟩
    have z01 : z0 ≠ z1 := fun z => by rw [← z, upd_same] at hz1; cases hz1
    have hz1C : JC z1 = none := by rw [upd_ne (Ne.symm z01)] at hz1; exact hz1
    generalize eJD : upd (upd (upd JC z0 (.dK (dS m1))) z1 (.dK [])) z1 (.dK (mergeK [] [(Sum.inr "b0", .str "c0")])) = JD
    have sCD : Same JC JD := fun c o e => by rw [← eJD, upd_ne (ne_of_none e hz1C), upd_ne (ne_of_none e hz1C), upd_ne (ne_of_none e hz0)]; exact e
    have v0 : JD z0 = some (.dK (dS m1)) := by rw [← eJD, upd_ne z01, upd_ne z01, upd_same]
    have v1 : JD z1 = some (.dK (dS [("b0", "c0")])) := by rw [← eJD, upd_same]; rfl
    intro o3 x3 ho3 hx3 nx3
    have sB3 : Same JD (upd (upd JD x3 (.own o3)) o3 (.ins C x3 [])) := Same.new (Same.put hx3) (by rw [upd_ne (Ne.symm nx3)]; exact ho3)
    refine ⟨o3, x3, z0, z1, m1, [("b0", "c0")], rfl, upd_same, sB3 _ _ v0, sB3 _ _ v1, P1.g, gd_one _ _, fun JE kpE NE => ⟨rfl, ?_⟩⟩
    have sDE : Same JD JE := fun c o e => kpE c o (sB3 _ _ e) (ne_of_none e ho3)
    have MP : MatchAt C JE o3 m1 [("b0", "c0")] := NE JE fun c o e hc => e
    have sCE : Same JC JE := sCD.trans sDE
    have jE : Same HF JE := jC.trans sCE
    -- refused
    refine ⟨_, rfl, _, rfl, o2, _, _, t, rfl, MA.same sCE, fit_away, fun JF jF => ⟨_, rfl, iteF ?_⟩⟩
    refine ⟨_, rfl, _, rfl, o3, _, _, t, rfl, MP.same jF, fit_apart m1, fun JG jG => ⟨_, rfl, iteF ?_⟩⟩
    have jH : Same HF JG := (jE.trans jF).trans jG
    exact ⟨_, rfl, _, rfl, R, _, _, _, rfl, rfl, SqL.of (jH _ _ cR), rfl, _, rfl, R, _, _, _, rfl, rfl, SqL.of (jH _ _ cR), rfl, o1, t0, t1, m1, m2, rfl, M1.same jH, jH _ _ c0, jH _ _ c1, fun J23 _ => k _⟩
end
end WW
namespace WW
open PySem PySem.Spec PyProof.Rows L2 WE
theorem kit_self {K : PySem.W.Frag} {C : Addr} : PySem.W.kitOne K (.ref C) (.ref C) = some true := by
  unfold PySem.W.kitOne
  rw [if_pos (by simp)]
theorem kit_own {K : PySem.W.Frag} {C : Addr} {T : String} {b : Bool} (h2 : PySem.W.isClsIn K C = true) (h3 : PySem.W.typeIn K (.ref C) = some (.type "type")) (h4 : PySem.W.subIn K (.type T) (.ref C) = some b) : PySem.W.kitOne K (.type T) (.ref C) = some b := by
  unfold PySem.W.kitOne
  rw [if_neg (by simp)]
  have h2' : (PySem.W.clsIn K C).isSome = true := h2
  show (if ((PySem.W.clsIn K C).isSome && PySem.W.typeIn K (.ref C) == some (.type "type")) = true then PySem.W.subIn K (.type T) (.ref C) else none) = some b
  rw [h2', h3, if_pos (by simp)]
  exact h4
theorem all_mk {l : PySem.W.OpenLaw} {w : World} {K : PySem.W.Frag} {h : Heap} {mg : Str → Option Value} {fa C CI W f1 f2 f3 f4 f5 f6 f7 f8 f9 f10 f11 f12 f13 f14 f15 f16 f17 f18 f19 f20 f21 f22 f23 f24 p12 : Addr} {rs12 : List Value} (X : K.In h) (G : h.Ns mainGlobals mg) (hfa : mg "law" = some (.ref fa))
    {nm q : Str} {N : Addr} {bs : List Value} {sn : List Str} {sub : List Value} {ab : Bool} {col : Option Bool} {dd : Option Addr} {m0 m1 m2 m3 m5 : Option Value}
    {od1 an1 : Option Addr} {sl1 : Array (Option Value)} {oc1 kV1 dc1 pm1 cd1 ct1 : Value}
    {od2 an2 : Option Addr} {sl2 : Array (Option Value)} {oc2 kV2 dc2 pm2 cd2 ct2 : Value}
    {od3 an3 : Option Addr} {sl3 : Array (Option Value)} {oc3 kV3 dc3 pm3 cd3 ct3 : Value}
    {od4 an4 : Option Addr} {sl4 : Array (Option Value)} {oc4 kV4 dc4 pm4 cd4 ct4 : Value}
    {od5 an5 : Option Addr} {sl5 : Array (Option Value)} {oc5 kV5 dc5 pm5 cd5 ct5 : Value}
    {od6 an6 : Option Addr} {sl6 : Array (Option Value)} {oc6 kV6 dc6 pm6 cd6 ct6 : Value}
    {od7 an7 : Option Addr} {sl7 : Array (Option Value)} {oc7 kV7 dc7 pm7 cd7 ct7 : Value}
    {od8 an8 : Option Addr} {sl8 : Array (Option Value)} {oc8 kV8 dc8 pm8 cd8 ct8 : Value}
    {od9 an9 : Option Addr} {sl9 : Array (Option Value)} {oc9 kV9 dc9 pm9 cd9 ct9 : Value}
    {od10 an10 : Option Addr} {sl10 : Array (Option Value)} {oc10 kV10 dc10 pm10 cd10 ct10 : Value}
    {od11 an11 : Option Addr} {sl11 : Array (Option Value)} {oc11 kV11 dc11 pm11 cd11 ct11 : Value}
    {od12 an12 : Option Addr} {sl12 : Array (Option Value)} {oc12 kV12 dc12 pm12 cd12 ct12 : Value}
    {od13 an13 : Option Addr} {sl13 : Array (Option Value)} {oc13 kV13 dc13 pm13 cd13 ct13 : Value}
    {od14 an14 : Option Addr} {sl14 : Array (Option Value)} {oc14 kV14 dc14 pm14 cd14 ct14 : Value}
    {od15 an15 : Option Addr} {sl15 : Array (Option Value)} {oc15 kV15 dc15 pm15 cd15 ct15 : Value}
    {od16 an16 : Option Addr} {sl16 : Array (Option Value)} {oc16 kV16 dc16 pm16 cd16 ct16 : Value}
    {od17 an17 : Option Addr} {sl17 : Array (Option Value)} {oc17 kV17 dc17 pm17 cd17 ct17 : Value}
    {od18 an18 : Option Addr} {sl18 : Array (Option Value)} {oc18 kV18 dc18 pm18 cd18 ct18 : Value}
    {od19 an19 : Option Addr} {sl19 : Array (Option Value)} {oc19 kV19 dc19 pm19 cd19 ct19 : Value}
    {od20 an20 : Option Addr} {sl20 : Array (Option Value)} {oc20 kV20 dc20 pm20 cd20 ct20 : Value}
    {od21 an21 : Option Addr} {sl21 : Array (Option Value)} {oc21 kV21 dc21 pm21 cd21 ct21 : Value}
    {od22 an22 : Option Addr} {sl22 : Array (Option Value)} {oc22 kV22 dc22 pm22 cd22 ct22 : Value}
    {od23 an23 : Option Addr} {sl23 : Array (Option Value)} {oc23 kV23 dc23 pm23 cd23 ct23 : Value}
    {od24 an24 : Option Addr} {sl24 : Array (Option Value)} {oc24 kV24 dc24 pm24 cd24 ct24 : Value}
    (aI : PySem.W.nsIn K mainGlobals "InvalidMatching" = some (some (.ref CI))) (aW : PySem.W.nsIn K mainGlobals "WireError" = some (some (.ref W)))
    (xL : K.lookup CI = some (excClassObj nm q CI N bs [.ref W, .type "ValueError", .type "Exception", .type "BaseException", .type "object"] true sn sub ab col dd m0 m1 m2 m3 m5 "ValueError.__new__"))
    (aC : PySem.W.nsIn K mainGlobals "Matching" = some (some (.ref C)))
    (a1 : PySem.W.findIn K (.ref C) "__init__" = some (some (.ref f1))) (i1 : PySem.W.isFn K (.ref f1) = true)
    (l1 : K.lookup f1 = some ⟨oc1, od1, .func (PySem.W.fnOf "__init__" "Matching.__init__" (defArgs sInit) (defBody sInit) (defScope sInit) .none kV1 dc1 pm1 an1 cd1 ct1), sl1⟩) (c1 : PySem.W.codeIn K cd1 "Matching.__init__" = true) (k1 : PySem.W.keepIn K (.ref f1) = true)
    (a2 : PySem.W.findIn K (.ref C) "__call__" = some (some (.ref f2))) (i2 : PySem.W.isFn K (.ref f2) = true)
    (l2 : K.lookup f2 = some ⟨oc2, od2, .func (PySem.W.fnOf "__call__" "Matching.__call__" (defArgs sCall) (defBody sCall) (defScope sCall) .none kV2 dc2 pm2 an2 cd2 ct2), sl2⟩) (c2 : PySem.W.codeIn K cd2 "Matching.__call__" = true) (k2 : PySem.W.keepIn K (.ref f2) = true)
    (a3 : PySem.W.findIn K (.ref C) "id_of" = some (some (.ref f3))) (i3 : PySem.W.isFn K (.ref f3) = true)
    (l3 : K.lookup f3 = some ⟨oc3, od3, .func (PySem.W.fnOf "id_of" "Matching.id_of" (defArgs sIdOf) (defBody sIdOf) (defScope sIdOf) .none kV3 dc3 pm3 an3 cd3 ct3), sl3⟩) (c3 : PySem.W.codeIn K cd3 "Matching.id_of" = true) (k3 : PySem.W.keepIn K (.ref f3) = true)
    (a4 : PySem.W.findIn K (.ref C) "net_map" = some (some (.ref f4))) (i4 : PySem.W.isFn K (.ref f4) = true)
    (l4 : K.lookup f4 = some ⟨oc4, od4, .func (PySem.W.fnOf "net_map" "Matching.net_map" (defArgs sNetMap) (defBody sNetMap) (defScope sNetMap) .none kV4 dc4 pm4 an4 cd4 ct4), sl4⟩) (c4 : PySem.W.codeIn K cd4 "Matching.net_map" = true) (k4 : PySem.W.keepIn K (.ref f4) = true)
    (a5 : PySem.W.findIn K (.ref C) "id_map" = some (some (.ref f5))) (i5 : PySem.W.isFn K (.ref f5) = true)
    (l5 : K.lookup f5 = some ⟨oc5, od5, .func (PySem.W.fnOf "id_map" "Matching.id_map" (defArgs sIdMap) (defBody sIdMap) (defScope sIdMap) .none kV5 dc5 pm5 an5 cd5 ct5), sl5⟩) (c5 : PySem.W.codeIn K cd5 "Matching.id_map" = true) (k5 : PySem.W.keepIn K (.ref f5) = true)
    (a6 : PySem.W.findIn K (.ref C) "__mul__" = some (some (.ref f6))) (i6 : PySem.W.isFn K (.ref f6) = true)
    (l6 : K.lookup f6 = some ⟨oc6, od6, .func (PySem.W.fnOf "__mul__" "Matching.__mul__" (defArgs sMul) (defBody sMul) (defScope sMul) .none kV6 dc6 pm6 an6 cd6 ct6), sl6⟩) (c6 : PySem.W.codeIn K cd6 "Matching.__mul__" = true) (k6 : PySem.W.keepIn K (.ref f6) = true)
    (a7 : PySem.W.findIn K (.ref C) "__invert__" = some (some (.ref f7))) (i7 : PySem.W.isFn K (.ref f7) = true)
    (l7 : K.lookup f7 = some ⟨oc7, od7, .func (PySem.W.fnOf "__invert__" "Matching.__invert__" (defArgs sInv) (defBody sInv) (defScope sInv) .none kV7 dc7 pm7 an7 cd7 ct7), sl7⟩) (c7 : PySem.W.codeIn K cd7 "Matching.__invert__" = true) (k7 : PySem.W.keepIn K (.ref f7) = true)
    (a8 : PySem.W.findIn K (.ref C) "power" = some (some (.ref f8))) (i8 : PySem.W.isFn K (.ref f8) = true)
    (l8 : K.lookup f8 = some ⟨oc8, od8, .func (PySem.W.fnOf "power" "Matching.power" (defArgs sPower) (defBody sPower) (defScope sPower) .none kV8 dc8 pm8 an8 cd8 ct8), sl8⟩) (c8 : PySem.W.codeIn K cd8 "Matching.power" = true) (k8 : PySem.W.keepIn K (.ref f8) = true)
    (a9 : PySem.W.findIn K (.ref C) "__eq__" = some (some (.ref f9))) (i9 : PySem.W.isFn K (.ref f9) = true)
    (l9 : K.lookup f9 = some ⟨oc9, od9, .func (PySem.W.fnOf "__eq__" "Matching.__eq__" (defArgs sEq) (defBody sEq) (defScope sEq) .none kV9 dc9 pm9 an9 cd9 ct9), sl9⟩) (c9 : PySem.W.codeIn K cd9 "Matching.__eq__" = true) (k9 : PySem.W.keepIn K (.ref f9) = true)
    (a10 : PySem.W.findIn K (.ref C) "__len__" = some (some (.ref f10))) (i10 : PySem.W.isFn K (.ref f10) = true)
    (l10 : K.lookup f10 = some ⟨oc10, od10, .func (PySem.W.fnOf "__len__" "Matching.__len__" (defArgs sLen) (defBody sLen) (defScope sLen) .none kV10 dc10 pm10 an10 cd10 ct10), sl10⟩) (c10 : PySem.W.codeIn K cd10 "Matching.__len__" = true) (k10 : PySem.W.keepIn K (.ref f10) = true)
    (a11 : PySem.W.findIn K (.ref CI) "__init__" = some (some (.ref f11))) (t11 : PySem.W.typeIn K (.ref f11) = some (.type "function"))
    (l11 : K.lookup f11 = some ⟨oc11, od11, .func (PySem.W.fnOf "__init__" "InvalidMatching.__init__" (defArgs sErr) (defBody sErr) (defScope sErr) .none kV11 dc11 pm11 an11 cd11 ct11), sl11⟩) (c11 : PySem.W.codeIn K cd11 "InvalidMatching.__init__" = true) (k11 : PySem.W.keepIn K (.ref f11) = true)
    (a12 : PySem.W.findIn K (.ref C) "is_identity" = some (some (.ref p12))) (g12 : PySem.W.specialIn K (.ref p12) "__get__" = some (some (.builtin "property.__get__"))) (t12 : PySem.W.takesIn K (.ref p12) = some true) (r12 : PySem.W.recIn K p12 "property" = some (.ref f12 :: rs12))
    (l12 : K.lookup f12 = some ⟨oc12, od12, .func (PySem.W.fnOf "is_identity" "Matching.is_identity" (defArgs sIsId) (defBody sIsId) (defScope sIsId) .none kV12 dc12 pm12 an12 cd12 ct12), sl12⟩) (c12 : PySem.W.codeIn K cd12 "Matching.is_identity" = true) (k12 : PySem.W.keepIn K (.ref f12) = true)
    (a13 : PySem.W.nsIn K mainGlobals "in_order" = some (some (.ref f13)))
    (l13 : K.lookup f13 = some ⟨oc13, od13, .func (PySem.W.fnOf "in_order" "in_order" (defArgs sInOrder) (defBody sInOrder) (defScope sInOrder) .none kV13 dc13 pm13 an13 cd13 ct13), sl13⟩) (c13 : PySem.W.codeIn K cd13 "in_order" = true) (k13 : PySem.W.keepIn K (.ref f13) = true)
    (a14 : PySem.W.nsIn K mainGlobals "are_unlike" = some (some (.ref f14)))
    (l14 : K.lookup f14 = some ⟨oc14, od14, .func (PySem.W.fnOf "are_unlike" "are_unlike" (defArgs sUnlike) (defBody sUnlike) (defScope sUnlike) .none kV14 dc14 pm14 an14 cd14 ct14), sl14⟩) (c14 : PySem.W.codeIn K cd14 "are_unlike" = true) (k14 : PySem.W.keepIn K (.ref f14) = true)
    (a15 : PySem.W.nsIn K mainGlobals "is_one_to_one" = some (some (.ref f15)))
    (l15 : K.lookup f15 = some ⟨oc15, od15, .func (PySem.W.fnOf "is_one_to_one" "is_one_to_one" (defArgs sOne) (defBody sOne) (defScope sOne) .none kV15 dc15 pm15 an15 cd15 ct15), sl15⟩) (c15 : PySem.W.codeIn K cd15 "is_one_to_one" = true) (k15 : PySem.W.keepIn K (.ref f15) = true)
    (a16 : PySem.W.nsIn K mainGlobals "fits_behind" = some (some (.ref f16)))
    (l16 : K.lookup f16 = some ⟨oc16, od16, .func (PySem.W.fnOf "fits_behind" "fits_behind" (defArgs sFits) (defBody sFits) (defScope sFits) .none kV16 dc16 pm16 an16 cd16 ct16), sl16⟩) (c16 : PySem.W.codeIn K cd16 "fits_behind" = true) (k16 : PySem.W.keepIn K (.ref f16) = true)
    (a17 : PySem.W.nsIn K mainGlobals "_law_start" = some (some (.ref f17)))
    (l17 : K.lookup f17 = some ⟨oc17, od17, .func (PySem.W.fnOf "_law_start" "_law_start" (defArgs sStart) (defBody sStart) (defScope sStart) .none kV17 dc17 pm17 an17 cd17 ct17), sl17⟩) (c17 : PySem.W.codeIn K cd17 "_law_start" = true) (k17 : PySem.W.keepIn K (.ref f17) = true)
    (a18 : PySem.W.nsIn K mainGlobals "_law_draw" = some (some (.ref f18)))
    (l18 : K.lookup f18 = some ⟨oc18, od18, .func (PySem.W.fnOf "_law_draw" "_law_draw" (defArgs sDraw) (defBody sDraw) (defScope sDraw) .none kV18 dc18 pm18 an18 cd18 ct18), sl18⟩) (c18 : PySem.W.codeIn K cd18 "_law_draw" = true) (k18 : PySem.W.keepIn K (.ref f18) = true)
    (a19 : PySem.W.nsIn K mainGlobals "_law_names" = some (some (.ref f19)))
    (l19 : K.lookup f19 = some ⟨oc19, od19, .func (PySem.W.fnOf "_law_names" "_law_names" (defArgs sNames) (defBody sNames) (defScope sNames) .none kV19 dc19 pm19 an19 cd19 ct19), sl19⟩) (c19 : PySem.W.codeIn K cd19 "_law_names" = true) (k19 : PySem.W.keepIn K (.ref f19) = true)
    (a20 : PySem.W.nsIn K mainGlobals "_law_map" = some (some (.ref f20)))
    (l20 : K.lookup f20 = some ⟨oc20, od20, .func (PySem.W.fnOf "_law_map" "_law_map" (defArgs sMap) (defBody sMap) (defScope sMap) .none kV20 dc20 pm20 an20 cd20 ct20), sl20⟩) (c20 : PySem.W.codeIn K cd20 "_law_map" = true) (k20 : PySem.W.keepIn K (.ref f20) = true)
    (a21 : PySem.W.nsIn K mainGlobals "_law_far" = some (some (.ref f21)))
    (l21 : K.lookup f21 = some ⟨oc21, od21, .func (PySem.W.fnOf "_law_far" "_law_far" (defArgs sFar) (defBody sFar) (defScope sFar) .none kV21 dc21 pm21 an21 cd21 ct21), sl21⟩) (c21 : PySem.W.codeIn K cd21 "_law_far" = true) (k21 : PySem.W.keepIn K (.ref f21) = true)
    (a22 : PySem.W.nsIn K mainGlobals "_law_refused" = some (some (.ref f22)))
    (l22 : K.lookup f22 = some ⟨oc22, od22, .func (PySem.W.fnOf "_law_refused" "_law_refused" (defArgs sRefused) (defBody sRefused) (defScope sRefused) .none kV22 dc22 pm22 an22 cd22 ct22), sl22⟩) (c22 : PySem.W.codeIn K cd22 "_law_refused" = true) (k22 : PySem.W.keepIn K (.ref f22) = true)
    (a23 : PySem.W.nsIn K mainGlobals "_law_holds" = some (some (.ref f23)))
    (l23 : K.lookup f23 = some ⟨oc23, od23, .func (PySem.W.fnOf "_law_holds" "_law_holds" (defArgs sHolds) (defBody sHolds) (defScope sHolds) .none kV23 dc23 pm23 an23 cd23 ct23), sl23⟩) (c23 : PySem.W.codeIn K cd23 "_law_holds" = true) (k23 : PySem.W.keepIn K (.ref f23) = true)
    (a24 : PySem.W.nsIn K mainGlobals "law" = some (some (.ref f24)))
    (l24 : K.lookup f24 = some ⟨oc24, od24, .func (PySem.W.fnOf "law" "law" (defArgs sLaw) (defBody sLaw) (defScope sLaw) .none kV24 dc24 pm24 an24 cd24 ct24), sl24⟩) (c24 : PySem.W.codeIn K cd24 "law" = true) (k24 : PySem.W.keepIn K (.ref f24) = true)
    (pg : PySem.W.plainGet K C Str.empty = true)
    (hd : PySem.W.hasDictIn K C = true)
    (po : PySem.W.plainOver K C = true)
    (sa : PySem.W.findIn K (.ref C) "__setattr__" = some (some (.builtin "object.__setattr__")))
    (mk : PySem.W.makesIn K C = true)
    (kc : PySem.W.keepIn K (.ref C) = true)
    (nN : PySem.W.findIn K (.ref C) "net_images" = some none)
    (nI : PySem.W.findIn K (.ref C) "id_images" = some none)
    (nP : PySem.W.findIn K (.ref C) "pairs" = some none)
    (ha : PySem.W.findIn K (.ref C) "__class__" = some (some (.builtin "object.__class__")))
    (hn : PySem.W.specialIn K (.builtin "object.__class__") "__get__" = some (some (.builtin "getset_descriptor.__get__")))
    (htk : PySem.W.takesIn K (.builtin "object.__class__") = some true)
    (hm : PySem.W.mroIn K C (.type "object") = some true)
    (iC : PySem.W.isClsIn K C = true)
    (tC : PySem.W.typeIn K (.ref C) = some (.type "type"))
    (sD : PySem.W.subIn K (.type "dict") (.ref C) = some false)
    (sf : PySem.W.selfFirst K C = true)
    (ne : PySem.W.findIn K (.ref C) "__ne__" = some (some (.builtin "object.__ne__")))
    (wr : PySem.W.readsIn K W (.type "type") = true)
    (wg : PySem.W.specialIn K (.ref W) "__getattribute__" = some (some (.builtin "type.__getattribute__")))
    (wi : PySem.W.findCls K (.ref W) (.type "type") "__init__" = some (.val (.builtin "ValueError.__init__")))
    (xs : PySem.W.findIn K (.ref CI) "__setattr__" = some (some (.builtin "object.__setattr__")))
    (xb : PySem.W.subIn K (.ref CI) (.type "BaseException") = some true)
    (xt : PySem.W.typeIn K (.ref CI) = some (.type "type"))
    (xk : PySem.W.keepIn K (.ref CI) = true)
    (xn : PySem.W.findIn K (.ref CI) "given" = some none)
    (xg : PySem.W.findIn K (.ref CI) "__getattribute__" = some (some (.builtin "BaseException.__getattribute__")))
    (xh : PySem.W.findIn K (.ref CI) "__getattr__" = some none)
    (xd : PySem.W.hasDictIn K CI = true)
    (xx : PySem.W.subIn K (.ref CI) (.ref CI) = some true)
    (fi : PySem.W.fnIn K f2 = true)
    (z_sorted : PySem.W.nsIn K mainGlobals "sorted" = some none)
    (z_str : PySem.W.nsIn K mainGlobals "str" = some none)
    (z_len : PySem.W.nsIn K mainGlobals "len" = some none)
    (z_isinstance : PySem.W.nsIn K mainGlobals "isinstance" = some none)
    (z_all : PySem.W.nsIn K mainGlobals "all" = some none)
    (z_list : PySem.W.nsIn K mainGlobals "list" = some none)
    (z_dict : PySem.W.nsIn K mainGlobals "dict" = some none)
    (z_range : PySem.W.nsIn K mainGlobals "range" = some none)
    (z_enumerate : PySem.W.nsIn K mainGlobals "enumerate" = some none)
    (z_iter : PySem.W.nsIn K mainGlobals "iter" = some none)
    (z_int : PySem.W.nsIn K mainGlobals "int" = some none)
    (z_abs : PySem.W.nsIn K mainGlobals "abs" = some none) :
    ∃ fd : FuncData, (∀ (s : Shared) (v : Value), BindsTo s fd ⟨[v], []⟩ [("_law_script", v)]) ∧ ∀ base : Heap, K.In base → base.Ns mainGlobals mg → FnOk l.prog w K mg base CX0 8 fa fd ["_law_script"] (spLaw K) := by
  have e := hfa.symm.trans (PySem.W.mg_of X G a24)
  cases e
  have T : MTxt K mg C := ⟨⟨pg, hd, po, sa⟩, nN, nI, nP, PySem.W.mg_of X G aC, ⟨⟨pg, hd, po, sa⟩, ha, hn, htk, hm, kit_self⟩, kit_own iC tC sD⟩
  have B : Blt mg := ⟨PySem.W.mg_none_of X G z_sorted, PySem.W.mg_none_of X G z_str, PySem.W.mg_none_of X G z_len, PySem.W.mg_none_of X G z_isinstance, PySem.W.mg_none_of X G z_all, PySem.W.mg_none_of X G z_list, PySem.W.mg_none_of X G z_dict, PySem.W.mg_none_of X G z_range, PySem.W.mg_none_of X G z_enumerate, PySem.W.mg_none_of X G z_iter, PySem.W.mg_none_of X G z_int, PySem.W.mg_none_of X G z_abs⟩
  have F1 := fun_mk (st := sInit) l1 c1 k1
  have b1 := F1.binds (ps := ["self", "nets", "ids"]) fun _ _ _ _ _ _ us hl => match us, hl with | [_, _, _], _ => rfl
  have F2 := fun_mk (st := sCall) l2 c2 k2
  have b2 := F2.binds (ps := ["self", "net"]) fun _ _ _ _ _ _ us hl => match us, hl with | [_, _], _ => rfl
  have F3 := fun_mk (st := sIdOf) l3 c3 k3
  have b3 := F3.binds (ps := ["self", "name"]) fun _ _ _ _ _ _ us hl => match us, hl with | [_, _], _ => rfl
  have F4 := fun_mk (st := sNetMap) l4 c4 k4
  have b4 := F4.binds (ps := ["self"]) fun _ _ _ _ _ _ us hl => match us, hl with | [_], _ => rfl
  have F5 := fun_mk (st := sIdMap) l5 c5 k5
  have b5 := F5.binds (ps := ["self"]) fun _ _ _ _ _ _ us hl => match us, hl with | [_], _ => rfl
  have F6 := fun_mk (st := sMul) l6 c6 k6
  have b6 := F6.binds (ps := ["self", "other"]) fun _ _ _ _ _ _ us hl => match us, hl with | [_, _], _ => rfl
  have F7 := fun_mk (st := sInv) l7 c7 k7
  have b7 := F7.binds (ps := ["self"]) fun _ _ _ _ _ _ us hl => match us, hl with | [_], _ => rfl
  have F8 := fun_mk (st := sPower) l8 c8 k8
  have b8 := F8.binds (ps := ["self", "times"]) fun _ _ _ _ _ _ us hl => match us, hl with | [_, _], _ => rfl
  have F9 := fun_mk (st := sEq) l9 c9 k9
  have b9 := F9.binds (ps := ["self", "other"]) fun _ _ _ _ _ _ us hl => match us, hl with | [_, _], _ => rfl
  have F10 := fun_mk (st := sLen) l10 c10 k10
  have b10 := F10.binds (ps := ["self"]) fun _ _ _ _ _ _ us hl => match us, hl with | [_], _ => rfl
  have F11 := fun_mk (st := sErr) l11 c11 k11
  have b11 := F11.binds (ps := ["self", "given"]) fun _ _ _ _ _ _ us hl => match us, hl with | [_, _], _ => rfl
  have F12 := fun_mk (st := sIsId) l12 c12 k12
  have b12 := F12.binds (ps := ["self"]) fun _ _ _ _ _ _ us hl => match us, hl with | [_], _ => rfl
  have F13 := fun_mk (st := sInOrder) l13 c13 k13
  have b13 := F13.binds (ps := ["texts"]) fun _ _ _ _ _ _ us hl => match us, hl with | [_], _ => rfl
  have F14 := fun_mk (st := sUnlike) l14 c14 k14
  have b14 := F14.binds (ps := ["some"]) fun _ _ _ _ _ _ us hl => match us, hl with | [_], _ => rfl
  have F15 := fun_mk (st := sOne) l15 c15 k15
  have b15 := F15.binds (ps := ["thing"]) fun _ _ _ _ _ _ us hl => match us, hl with | [_], _ => rfl
  have F16 := fun_mk (st := sFits) l16 c16 k16
  have b16 := F16.binds (ps := ["one", "other"]) fun _ _ _ _ _ _ us hl => match us, hl with | [_, _], _ => rfl
  have F17 := fun_mk (st := sStart) l17 c17 k17
  have b17 := F17.binds (ps := ["_law_script"]) fun _ _ _ _ _ _ us hl => match us, hl with | [_], _ => rfl
  have F18 := fun_mk (st := sDraw) l18 c18 k18
  have b18 := F18.binds (ps := ["_law_state", "_law_many"]) fun _ _ _ _ _ _ us hl => match us, hl with | [_, _], _ => rfl
  have F19 := fun_mk (st := sNames) l19 c19 k19
  have b19 := F19.binds (ps := ["_law_state", "_law_many", "_law_letter"]) fun _ _ _ _ _ _ us hl => match us, hl with | [_, _, _], _ => rfl
  have F20 := fun_mk (st := sMap) l20 c20 k20
  have b20 := F20.binds (ps := ["_law_state", "_law_names_here", "_law_targets"]) fun _ _ _ _ _ _ us hl => match us, hl with | [_, _, _], _ => rfl
  have F21 := fun_mk (st := sFar) l21 c21 k21
  have b21 := F21.binds (ps := ["_law_rows", "_law_many"]) fun _ _ _ _ _ _ us hl => match us, hl with | [_, _], _ => rfl
  have F22 := fun_mk (st := sRefused) l22 c22 k22
  have b22 := F22.binds (ps := ["_law_one", "_law_many"]) fun _ _ _ _ _ _ us hl => match us, hl with | [_, _], _ => rfl
  have F23 := fun_mk (st := sHolds) l23 c23 k23
  have b23 := F23.binds (ps := ["_law_told", "_law_nets", "_law_ids"]) fun _ _ _ _ _ _ us hl => match us, hl with | [_, _, _], _ => rfl
  have F24 := fun_mk (st := sLaw) l24 c24 k24
  have b24 := F24.binds (ps := ["_law_script"]) fun _ _ _ _ _ _ us hl => match us, hl with | [_], _ => rfl
  refine ⟨PySem.W.fnOf "law" "law" (defArgs sLaw) (defBody sLaw) (defScope sLaw) .none kV24 dc24 pm24 an24 cd24 ct24, fun s v => .of_eq rfl, fun base _ _ => ?_⟩
  have GIL := ok_inOrderL (P := l.prog) (w := w) (mg := mg) (base := base) F13 B
  have GID := ok_inOrderD (P := l.prog) (w := w) (mg := mg) (base := base) F13 B
  have GO := ok_one (P := l.prog) (w := w) (mg := mg) (base := base) F15 F14 b14 (PySem.W.mg_of X G a14) B
  have GN := ok_init (P := l.prog) (w := w) (base := base) F1 T B GO b15 (PySem.W.mg_of X G a15) k15 GID b13 (PySem.W.mg_of X G a13) k13
  have GF := ok_fits (P := l.prog) (w := w) (base := base) F16 T B GIL GID b13 (PySem.W.mg_of X G a13) k13
  have MK : Mk K C f1 := ⟨mk, a1, i1, kc⟩
  have GMU := ok_mul (P := l.prog) (w := w) (base := base) F6 T B GF b16 (PySem.W.mg_of X G a16) k16 GN b1 MK
  have GIV := ok_inv (P := l.prog) (w := w) (base := base) F7 T B GN b1 MK
  have GD := ok_draw (P := l.prog) (w := w) (mg := mg) (base := base) F18 B
  have FN : MFns l.prog w K mg base C :=
    ⟨⟨_, _, ⟨a4, i4, k4⟩, ok_netMap F4 T B, b4⟩, ⟨_, _, ⟨a5, i5, k5⟩, ok_idMap F5 T B, b5⟩, ⟨_, _, ⟨a3, i3, k3⟩, ok_idOf F3 T B, b3⟩,
      ⟨_, _, ⟨a10, i10, k10⟩, ok_lenM F10 T B, b10⟩, ⟨_, ⟨a2, i2, fi⟩, fnR_of (ok_callM F2 T B) b2⟩⟩
  have TE : ErrTxt K mg CI W f11 := ⟨⟨PySem.W.mg_of X G aW, wr, wg, wi⟩, ⟨⟨_, _, _, _, _, _, _, _, _, _, _, _, _, _, _, xL, rfl⟩, xs, xb, xt, xk⟩, PySem.W.mg_of X G aI, xn, a11, t11⟩
  have GER := ok_err (P := l.prog) (w := w) (base := base) F11 TE
  have xf : XfC K CI := ⟨xg, xh, xb, xd⟩
  have xm : PySem.W.exmOne K (.ref CI) (.ref CI) = some true := PySem.W.exm_ref xb xd xt xx
  have GP := ok_power (P := l.prog) (w := w) (base := base) F8 T B TE GER b11 GF b16 (PySem.W.mg_of X G a16) k16 sf ⟨a6, i6, k6⟩ GMU b6 ⟨a7, i7, k7⟩ GIV b7
  exact ok_law F24 T B sf ⟨⟨_, _, PySem.W.mg_of X G a17, k17, ok_start F17 B, b17⟩⟩ ⟨⟨_, _, PySem.W.mg_of X G a18, k18, GD, b18⟩⟩
    ⟨⟨_, _, PySem.W.mg_of X G a19, k19, ok_names F19 B GD b18 (PySem.W.mg_of X G a18) k18, b19⟩⟩ ⟨⟨_, _, PySem.W.mg_of X G a20, k20, ok_map F20 B GD b18 (PySem.W.mg_of X G a18) k18, b20⟩⟩
    ⟨⟨_, _, PySem.W.mg_of X G a21, k21, ok_far F21 B, b21⟩⟩ ⟨⟨_, _, PySem.W.mg_of X G a22, k22, ok_refused F22 T TE xf xm ⟨a8, i8, k8⟩ GP b8, b22⟩⟩ ⟨⟨_, _, PySem.W.mg_of X G a23, k23, ok_holds F23 T B FN, b23⟩⟩
    ⟨⟨_, _, ⟨a6, i6, k6⟩, GMU, b6⟩⟩ ⟨⟨_, _, ⟨a7, i7, k7⟩, GIV, b7⟩⟩
    ⟨⟨_, _, ⟨a8, i8, k8⟩, GP, b8⟩⟩
    ⟨⟨a9, i9, k9⟩, ne, hm⟩ (ok_eqM F9 T B) b9 ⟨a12, g12, t12, _, r12⟩ (ok_isId F12 T B) b12 MK ⟨_, GN, b1⟩
theorem walk {l : PySem.W.OpenLaw} {q : Program} {loose : List Str} {XP : (Str → Option Value) → Heap → Prop} {YP : World → Heap → Prop} {d : DefRec} {K : Params → PySem.W.Frag} (hn : l.most = some 63) (hdf : d.params.defaults = [])
    (hY : ∀ (w : World) (h : Heap), YP w h → (K w.params).In h)
    (F : ∀ (w : World) (mg : Str → Option Value) (fa : Addr) (h : Heap), (K w.params).In h → h.Ns mainGlobals mg → mg d.name = some (.ref fa) →
      ∃ fd : FuncData, (∀ (s : Shared) (u : Value), BindsTo s fd ⟨[u], []⟩ [("_law_script", u)]) ∧ ∀ base : Heap, (K w.params).In base → base.Ns mainGlobals mg → FnOk l.prog w (K w.params) mg base CX0 8 fa fd ["_law_script"] (spLaw (K w.params))) :
    PySem.W.WalkO q loose XP YP l.row.toRowW d [] (fun f vs => PySem.call f vs) :=
  L2.walk_of (n := 63) (k := 8) (x := "_law_script") (CX := fun _ => CX0) (sp := fun w => spLaw (K w.params)) hn (by decide) hdf ⟨rfl, by decide, by decide⟩ hY F (fun _ _ a ns hl _ hS => ⟨a, ns, rfl, hS, fun _ => rfl⟩) fun _ _ _ _ _ z => z
end WW
open PySem PySem.W PyProof.Rows
set_option maxRecDepth 100000 in
set_option maxHeartbeats 0 in
theorem PySem.Challenge.cw_wishedwires_k37_matchings_to_a_power_holds : PySem.Challenge.rw_wishedwires_k37_matchings_to_a_power.Holds := by
  w_on; o_law; k_head; (case hw => w_witness2)
  k_fill
  refine WW.walk (l := PySem.Challenge.rw_wishedwires_k37_matchings_to_a_power) rfl rfl (fun w h Y => PySem.W.kIn_of Y) ?F
  case F =>
    intro w mg fa h KX G hmg
    refine' WW.all_mk KX G hmg ?aI ?aW ?xL ?aC ?a1 ?i1 ?l1 ?c1 ?k1 ?a2 ?i2 ?l2 ?c2 ?k2 ?a3 ?i3 ?l3 ?c3 ?k3 ?a4 ?i4 ?l4 ?c4 ?k4 ?a5 ?i5 ?l5 ?c5 ?k5 ?a6 ?i6 ?l6 ?c6 ?k6 ?a7 ?i7 ?l7 ?c7 ?k7 ?a8 ?i8 ?l8 ?c8 ?k8 ?a9 ?i9 ?l9 ?c9 ?k9 ?a10 ?i10 ?l10 ?c10 ?k10 ?a11 ?t11 ?l11 ?c11 ?k11 ?a12 ?g12 ?t12 ?r12 ?l12 ?c12 ?k12 ?a13 ?l13 ?c13 ?k13 ?a14 ?l14 ?c14 ?k14 ?a15 ?l15 ?c15 ?k15 ?a16 ?l16 ?c16 ?k16 ?a17 ?l17 ?c17 ?k17 ?a18 ?l18 ?c18 ?k18 ?a19 ?l19 ?c19 ?k19 ?a20 ?l20 ?c20 ?k20 ?a21 ?l21 ?c21 ?k21 ?a22 ?l22 ?c22 ?k22 ?a23 ?l23 ?c23 ?k23 ?a24 ?l24 ?c24 ?k24 ?pg ?hd ?po ?sa ?mk ?kc ?nN ?nI ?nP ?ha ?hn ?htk ?hm ?iC ?tC ?sD ?sf ?ne ?wr ?wg ?wi ?xs ?xb ?xt ?xk ?xn ?xg ?xh ?xd ?xx ?fi ?z_sorted ?z_str ?z_len ?z_isinstance ?z_all ?z_list ?z_dict ?z_range ?z_enumerate ?z_iter ?z_int ?z_abs
    (case aI => k_is)
    (case aW => k_is)
    (case xL => k_is)
    (case aC => k_is)
    (case a1 => k_is)
    (case i1 => k_is)
    (case l1 => k_is)
    (case c1 => k_is)
    (case k1 => k_is)
    (case a2 => k_is)
    (case i2 => k_is)
    (case l2 => k_is)
    (case c2 => k_is)
    (case k2 => k_is)
    (case a3 => k_is)
    (case i3 => k_is)
    (case l3 => k_is)
    (case c3 => k_is)
    (case k3 => k_is)
    (case a4 => k_is)
    (case i4 => k_is)
    (case l4 => k_is)
    (case c4 => k_is)
    (case k4 => k_is)
    (case a5 => k_is)
    (case i5 => k_is)
    (case l5 => k_is)
    (case c5 => k_is)
    (case k5 => k_is)
    (case a6 => k_is)
    (case i6 => k_is)
    (case l6 => k_is)
    (case c6 => k_is)
    (case k6 => k_is)
    (case a7 => k_is)
    (case i7 => k_is)
    (case l7 => k_is)
    (case c7 => k_is)
    (case k7 => k_is)
    (case a8 => k_is)
    (case i8 => k_is)
    (case l8 => k_is)
    (case c8 => k_is)
    (case k8 => k_is)
    (case a9 => k_is)
    (case i9 => k_is)
    (case l9 => k_is)
    (case c9 => k_is)
    (case k9 => k_is)
    (case a10 => k_is)
    (case i10 => k_is)
    (case l10 => k_is)
    (case c10 => k_is)
    (case k10 => k_is)
    (case a11 => k_is)
    (case t11 => k_is)
    (case l11 => k_is)
    (case c11 => k_is)
    (case k11 => k_is)
    (case a12 => k_is)
    (case g12 => k_is)
    (case t12 => k_is)
    (case r12 => k_is)
    (case l12 => k_is)
    (case c12 => k_is)
    (case k12 => k_is)
    (case a13 => k_is)
    (case l13 => k_is)
    (case c13 => k_is)
    (case k13 => k_is)
    (case a14 => k_is)
    (case l14 => k_is)
    (case c14 => k_is)
    (case k14 => k_is)
    (case a15 => k_is)
    (case l15 => k_is)
    (case c15 => k_is)
    (case k15 => k_is)
    (case a16 => k_is)
    (case l16 => k_is)
    (case c16 => k_is)
    (case k16 => k_is)
    (case a17 => k_is)
    (case l17 => k_is)
    (case c17 => k_is)
    (case k17 => k_is)
    (case a18 => k_is)
    (case l18 => k_is)
    (case c18 => k_is)
    (case k18 => k_is)
    (case a19 => k_is)
    (case l19 => k_is)
    (case c19 => k_is)
    (case k19 => k_is)
    (case a20 => k_is)
    (case l20 => k_is)
    (case c20 => k_is)
    (case k20 => k_is)
    (case a21 => k_is)
    (case l21 => k_is)
    (case c21 => k_is)
    (case k21 => k_is)
    (case a22 => k_is)
    (case l22 => k_is)
    (case c22 => k_is)
    (case k22 => k_is)
    (case a23 => k_is)
    (case l23 => k_is)
    (case c23 => k_is)
    (case k23 => k_is)
    (case a24 => k_is)
    (case l24 => k_is)
    (case c24 => k_is)
    (case k24 => k_is)
    (case pg => k_is)
    (case hd => k_is)
    (case po => k_is)
    (case sa => k_is)
    (case mk => k_is)
    (case kc => k_is)
    (case nN => k_is)
    (case nI => k_is)
    (case nP => k_is)
    (case ha => k_is)
    (case hn => k_is)
    (case htk => k_is)
    (case hm => k_is)
    (case iC => k_is)
    (case tC => k_is)
    (case sD => k_is)
    (case sf => k_is)
    (case ne => k_is)
    (case wr => k_is)
    (case wg => k_is)
    (case wi => k_is)
    (case xs => k_is)
    (case xb => k_is)
    (case xt => k_is)
    (case xk => k_is)
    (case xn => k_is)
    (case xg => k_is)
    (case xh => k_is)
    (case xd => k_is)
    (case xx => k_is)
    (case fi => k_is)
    (case z_sorted => k_is)
    (case z_str => k_is)
    (case z_len => k_is)
    (case z_isinstance => k_is)
    (case z_all => k_is)
    (case z_list => k_is)
    (case z_dict => k_is)
    (case z_range => k_is)
    (case z_enumerate => k_is)
    (case z_iter => k_is)
    (case z_int => k_is)
    (case z_abs => k_is)
#print axioms PySem.Challenge.cw_wishedwires_k37_matchings_to_a_power_holds
