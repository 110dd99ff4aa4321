import PyProof.Rows.All
import Wide.All
import OpenK.AllK
import Wide.FinOn
import HandS.ForMost
import HandS.Walk
import HandS.DictComp
import HandS.IsInst
import HandS.More
import HandS.RaiseMore
import KE.KDictList
import HandS.ListItems
import HandS.Star
import HandS.Property
import HandS.OwnEq
import HandS.Finally
import HandS.Style
import KE.KOpsOwn
import HandS.IterVal
import HandS.Lambda
import KE.KOwnIter
import HandS.ListEq
import HandS.DictEq
import HandS.Codes
import PySem.Challenge.RW_wishedwires_k36_matchings_multiplied
set_option Elab.async false
set_option linter.all false
set_option maxRecDepth 100000
set_option maxHeartbeats 4000000
namespace WW
open PySem PySem.Spec PyProof.Rows L2
/-! ### texts in order -/
def leS (a b : Str) : Bool := !decide (b.cps.toList < a.cps.toList)
theorem leS_anti {a b : Str} (h1 : leS a b = true) (h2 : leS b a = true) : a = b := by
  unfold leS at h1 h2
  simp only [Bool.not_eq_true', decide_eq_false_iff_not] at h1 h2
  have e : a.cps.toList = b.cps.toList := List.le_antisymm (Std.not_lt.mp h1) (Std.not_lt.mp h2)
  cases a; cases b
  simp only [Str.mk.injEq]
  exact Array.toList_inj.mp e
theorem leS_trans {a b c : Str} (h1 : leS a b = true) (h2 : leS b c = true) : leS a c = true := by
  unfold leS at h1 h2 ⊢
  simp only [Bool.not_eq_true', decide_eq_false_iff_not] at h1 h2 ⊢
  exact Std.not_lt.mpr (List.le_trans (Std.not_lt.mp h1) (Std.not_lt.mp h2))
theorem leS_total (a b : Str) : (leS a b || leS b a) = true := by
  unfold leS
  by_cases h : b.cps.toList < a.cps.toList
  · have : ¬ a.cps.toList < b.cps.toList := fun h' => List.lt_irrefl _ (List.lt_trans h h')
    simp [this]
  · simp [h]
def sortS (l : List Str) : List Str := l.mergeSort leS
theorem sortS_perm (l : List Str) : (sortS l).Perm l := List.mergeSort_perm l leS
theorem sortS_pairwise (l : List Str) : (sortS l).Pairwise (fun a b => leS a b = true) := List.pairwise_mergeSort (le := leS) (fun a b c => leS_trans) leS_total l
theorem risingS_pw : ∀ (l : List Str) (p : Str), risingS p l = true → (p :: l).Pairwise (fun a b => leS a b = true)
  | [], p, _ => by simp
  | x :: r, p, h => by
    have h : (!ltCps x.cps.toList p.cps.toList && risingS x r) = true := h
    rw [Bool.and_eq_true] at h
    have ih := risingS_pw r x h.2
    have e : leS p x = true := by rw [ltCps_eq] at h; exact h.1
    refine List.pairwise_cons.mpr ⟨fun y hy => ?_, ih⟩
    rcases List.mem_cons.mp hy with rfl | hy
    · exact e
    · exact leS_trans e ((List.pairwise_cons.mp ih).1 y hy)
theorem sortedS_pw (l : List Str) (h : sortedS l = true) : l.Pairwise (fun a b => leS a b = true) := by
  cases l with
  | nil => simp
  | cons x r => exact risingS_pw r x h
theorem sortS_of {l ys : List Str} (p : ys.Perm l) (h : sortedS ys = true) : ys = sortS l := by
  refine List.Perm.eq_of_pairwise (le := fun a b => leS a b = true) (fun a b _ _ => leS_anti) (sortedS_pw ys h) (sortS_pairwise l) (p.trans (sortS_perm l).symm)
theorem sortS_congr {l m : List Str} (p : l.Perm m) : sortS l = sortS m :=
  List.Perm.eq_of_pairwise (le := fun a b => leS a b = true) (fun a b _ _ => leS_anti) (sortS_pairwise l) (sortS_pairwise m) ((sortS_perm l).trans (p.trans (sortS_perm m).symm))
theorem sortS_length (l : List Str) : (sortS l).length = l.length := (sortS_perm l).length_eq

/-! ### comprehensions whose turns leave the heap as it is -/
theorem upd_upd {H : Hp} {D : Addr} {o u : HO} : upd (upd H D o) D u = upd H D u := by
  funext b
  unfold upd
  by_cases h : b = D <;> simp [h]
theorem lcA {J : It} {n : Nat} {G : Hp → Prop} {Y : Nat → Hp → V → Hp → Prop} (w : Walk J n G Y) {g : TG} {tt : TT} {te : TE} {vs : List Nat} {σ : L2.St} {H1 : Hp} {D : Addr} {Qd : Hp → Prop} (A : Nat → List V) (h0 : A 0 = []) (hz : ∀ i, i < n → (A i).length < sizeLine)
    (hG : ∀ acc, G (upd H1 D (.lst acc)))
    (hs : ∀ i x H', i < n → Y i (upd H1 D (.lst (A i))) x H' → H' = upd H1 D (.lst (A i)) ∧ ∀ (R : V → Hp → Prop) (NX : Hp → Prop), (∀ y, A (i + 1) = A i ++ [y] → R y H') → (A (i + 1) = A i → NX H') →
      g x (wipe σ vs) H' fun σ2 H2 => wipe σ2 vs = wipe σ vs ∧ tt σ2 H2 fun b H3 => if b = true then te σ2 H3 R else NX H3)
    (hd : Qd (upd H1 D (.lst (A n)))) :
    ∃ W : Nat → Nat → Hp → Prop, (∃ m, W 0 m (upd H1 D (.lst []))) ∧ ∀ i m H, W i m H →
      (J.stop i H ∧ Qd H) ∨ (J.go i H ∧ ∃ Nx : Hp → Prop, (∀ H', Nx H' → ∃ m', m' < m ∧ W (i + 1) m' H') ∧ ∀ x H', J.yld i H x H' → g x (wipe σ vs) H' fun σ2 H2 => wipe σ2 vs = wipe σ vs ∧ tt σ2 H2 fun b H3 =>
        if b = true then te σ2 H3 fun y H4 => ∃ acc, H4 D = some (.lst acc) ∧ acc.length < sizeLine ∧ Nx (upd H4 D (.lst (acc ++ [y]))) else Nx H3) := by
  refine ⟨fun i m H => m = n - i ∧ i ≤ n ∧ H = upd H1 D (.lst (A i)), ⟨n, by simp, Nat.zero_le _, by rw [h0]⟩, ?_⟩
  rintro i m H ⟨rfl, hi, rfl⟩
  have q := hG (A i)
  by_cases hlt : i < n
  · refine .inr ⟨w.goes i _ hlt q, fun H' => H' = upd H1 D (.lst (A (i + 1))), fun H' p' => ⟨n - (i + 1), by omega, rfl, hlt, p'⟩, fun x H' y => ?_⟩
    obtain ⟨e, k⟩ := hs i x H' hlt (w.yields i _ x H' hlt q y)
    subst e
    exact k _ _ (fun y hy => ⟨A i, upd_same, hz i hlt, by rw [upd_upd, hy]⟩) (fun hy => by rw [hy])
  · have e : i = n := by omega
    subst e
    exact .inl ⟨w.stops _ q, hd⟩
/-- every item is kept -/
theorem lcM {J : It} {n : Nat} {G : Hp → Prop} {Y : Nat → Hp → V → Hp → Prop} (w : Walk J n G Y) {g : TG} {te : TE} {vs : List Nat} {σ : L2.St} {H1 : Hp} {D : Addr} {Qd : Hp → Prop} (ys : List V) (hn : ys.length = n) (hz : n < 1000)
    (hG : ∀ acc, G (upd H1 D (.lst acc)))
    (hs : ∀ i x y acc H', ys[i]? = some y → Y i (upd H1 D (.lst acc)) x H' → H' = upd H1 D (.lst acc) ∧ ∀ R : V → Hp → Prop, R y H' → g x (wipe σ vs) H' fun σ2 H2 => wipe σ2 vs = wipe σ vs ∧ te σ2 H2 R)
    (hd : Qd (upd H1 D (.lst ys))) :
    ∃ W : Nat → Nat → Hp → Prop, (∃ m, W 0 m (upd H1 D (.lst []))) ∧ ∀ i m H, W i m H →
      (J.stop i H ∧ Qd H) ∨ (J.go i H ∧ ∃ Nx : Hp → Prop, (∀ H', Nx H' → ∃ m', m' < m ∧ W (i + 1) m' H') ∧ ∀ x H', J.yld i H x H' → g x (wipe σ vs) H' fun σ2 H2 => wipe σ2 vs = wipe σ vs ∧ tYes σ2 H2 fun b H3 =>
        if b = true then te σ2 H3 fun y H4 => ∃ acc, H4 D = some (.lst acc) ∧ acc.length < sizeLine ∧ Nx (upd H4 D (.lst (acc ++ [y]))) else Nx H3) := by
  refine lcA w (fun i => ys.take i) (by simp) (fun i hi => small1000 (by rw [List.length_take]; omega)) hG (fun i x H' hi hy => ?_) (by show Qd (upd H1 D (.lst (ys.take n))); rw [List.take_of_length_le (by omega)]; exact hd)
  have hi' : i < ys.length := by omega
  obtain ⟨e, k⟩ := hs i x ys[i] _ H' (by simp [hi']) hy
  refine ⟨e, fun R NX h1 h2 => ?_⟩
  have := k R (h1 ys[i] (by rw [List.take_succ_eq_append_getElem hi']))
  unfold tYes
  simpa using this
end WW
namespace WW
open PySem PySem.Spec PyProof.Rows L2
def tListVals (te : TE) : TE := fun σ H Q => te σ H fun x H1 => ∃ (d : Addr) (kvs : List (Key × V)), x = .ref d ∧ H1 d = some (.dK kvs) ∧ ∀ p, H1 p = none → Q (.ref p) (upd H1 p (.lst (kvs.map (·.2))))
theorem vals_at : ∀ {kvs : List (Key × V)} {vs : List (Key × Value)} (r : KV kvs vs) {l : List Value}, l.length = vs.length → (∀ (j : Nat) (v : Value), l[j]? = some v → ∃ k, vs[j]? = some (k, v)) → Vals (kvs.map (·.2)) l
  | [], [], .nil, l, hl, _ => by
    cases l with
    | nil => exact .nil
    | cons _ _ => simp at hl
  | p :: kvs, q :: vs, .cons h t, l, hl, he => by
    cases l with
    | nil => simp at hl
    | cons u l =>
      obtain ⟨k, e⟩ := he 0 u rfl
      have e' := Option.some.inj (show some q = some (k, u) from e)
      refine .cons ?_ (vals_at t (by simpa using hl) fun j v ej => he (j + 1) v ej)
      have := h.2
      rw [e'] at this
      exact this
section
variable {X : Cx} {e : Expr} {te : TE} {p apos cpos pos : Pos}
/-- list(e.values()) -/
theorem pe_listVals (hc : X.calm = true) (he : PE X e te) (hg : Gl X "list") (hm : X.mg "list" = none) (hv : bootBuiltins "list" = some (.type "list")) (hbase : attributeBase e "values" X.env (eval e X.env) = eval e X.env := by rfl) (hline : (apos.endLine == cpos.line) = true := by rfl)
    (hs : starEach [.Call (.Attribute e "values" apos) [] [] cpos] X.env = (false, eval (.Call (.Attribute e "values" apos) [] [] cpos) X.env) :: starEach [] X.env := by rfl) :
    PE X (.Call (.Name "list" p) [.Call (.Attribute e "values" apos) [] [] cpos] [] pos) (tListVals te) := by
  refine ⟨fun pins s σ H Q I hq => ?_⟩
  refine wpAny_Call_Name_kw (ld_blt I hg hm hv ?_)
  refine PyProof.Rows.callWith_type1 ?_ hs rfl
  rw [hs]
  show wpAny _ _ (spliced ((false, eval (.Call (.Attribute e "values" apos) [] [] cpos) X.env) :: backTo pos (starEach [] X.env))) _ _ s
  refine Calls.spliced_cons ?_
  refine wpAny_Call_method (T := "dict") (id := "dict.values") hbase rfl hline F.plainAttrs_dict F.slot_dict_values F.type_dict_values (thn (he.run pins s σ H _ I hq) fun u s1 ⟨x, H1, I1, rx, d, kvs, ex, hd, q⟩ => ?_)
  subst ex
  obtain rfl : u = Value.ref d := rx
  obtain ⟨hz, hs0, vs, kv, hdo⟩ := I1.hok d _ hd
  obtain ⟨ep, hat⟩ := hdo.dictAt
  have lk : kvs.length = vs.length := Paired.length kv
  have I2 : Inv X pins σ H1 { s1 with heap := s1.heap.push { cls := .type "dict_values", data := .fields #[.ref d] } } := I1.kept (t' := s1.toks) fun b ob q => Heap.get?_push_of_some _ q
  refine ⟨hdo.typeIs, hdo.mapOf.noDict, ?_⟩
  show wpAny _ _ (callWith cpos (.builtin "dict.values") [.ref d] [] []) _ X.xe s1
  refine method_meetsIn F.slot_dict_values F.entry_dict_values rfl (PySem.evalArgs_none ⟨rfl, hdo.typeIs, F.args_dict_values_1 _, _, meets_dict_values (mixKind X.prog X.w) d hs0, ⟨vs, hdo⟩, ?_⟩)
  refine Calls.spliced_nil ?_
  refine PySem.W.kdl_call (PySem.W.kdl_values (knd := mixKind X.prog X.w) (kvs := vs) (ep := ep) (d := d) (r := s1.heap.objs.size)) (I1.ok.hd hc) ⟨⟨_, Heap.get?_push_size _ rfl, rfl, rfl⟩, hat.push _⟩ (by omega) fun h' tk acc c' hk hD hacc => ?_
  have hv : Vals (kvs.map (·.2)) acc.toList := vals_at kv (by rw [Array.length_toList]; exact hacc.1) fun j v e => hacc.2 j v (by rw [← Array.getElem?_toList]; exact e)
  refine ⟨.ref _, upd H1 _ (.lst (kvs.map (·.2))), I2.laid (t' := tk) hk (Nat.le_refl _)
    (show ObjOk X.prog X.w _ _ _ (.lst (kvs.map (·.2))) from ⟨by rw [List.length_map]; exact hz, acc.toList, c', hv, by rw [Array.toArray_toList]; exact hD⟩), rfl, q _ (I2.hok.fresh (Nat.le_refl _))⟩
end
end WW
namespace WW
open PySem PySem.Spec PyProof.Rows L2
section
open PySem.W
variable {prog : Program} {w : World} {A : Around} {E : Value → Shared → Prop} {s : Shared} {K : Frag} {x C L f : Addr} {h₀ : Heap} {m : Str → Option Value} {ox : Obj} {od : Option Obj} {b tb : Value}
/-- a op b, both of the class C, by C's own method -/
theorem bin_same {op : Operator} {Q : Value → Shared → Prop} (X : K.In s.heap) (I : InstAt s.heap x ox C od) (hb : Looks (model prog w) s.heap (typeOf b) (.ref C)) (hc : selfFirst K C = true)
    (hs : findIn K (.ref C) (PySem.dunder op.info.2) = some (some (.ref f))) (hf : isFn K (.ref f) = true)
    (h : wpAny (model prog w) A (call (.ref f) [.ref x, b]) (PySem.W.CmpBack Q) E s) : wpAny (model prog w) A (binaryOp op (.ref x) b) Q E s := by
  obtain ⟨cd, rest, hcd, hm⟩ := ksp_first hc
  rcases hi : op.info with ⟨sym, nm'⟩
  rw [hi] at hs
  dsimp only at hs
  have one := ksp_try X I hs hf h
  obtain ⟨hh, g, d, tt, os⟩ := s
  have L1 : Looks (model prog w) hh (typeOf (.ref x)) (.ref C) := I.type
  have L3 : Looks (model prog w) hh (fillsNumberSlot (.ref C) nm') true := fills_K X hcd hm hs
  have hne : (Value.ref C == Value.ref C) = true := by simp
  simp only [binaryOp, hi]
  refine wpAny_holding (wpAny_bind ?_)
  unfold binaryOp1
  refine wpAny_bind (L1.at (wpAny_bind (hb.at (wpAny_bind (L3.at ?_)))))
  simp only [hne, if_true]
  ksp_lk
  refine wpAny_mono one (fun r s' hr' => ?_) fun _ _ e => e
  obtain ⟨v, rfl, hq⟩ := hr'
  ksp_lk
  exact hq
theorem inv_own {Q : Value → Shared → Prop} (X : K.In s.heap) (I : InstAt s.heap x ox C od) (hs : findIn K (.ref C) "__invert__" = some (some (.ref f))) (hf : isFn K (.ref f) = true)
    (h : wpAny (model prog w) A (call (.ref f) [.ref x]) Q E s) : wpAny (model prog w) A (unaryOp .Invert (.ref x)) Q E s := by
  unfold unaryOp
  refine wpAny_holding ?_
  exact wpAny_bind (special_fn X I hs (beq_iff_eq.mp hf) (wpAny_mono h (fun _ _ z => wpAny_pure z) fun _ _ z => z))
end
/-! ### the readings -/
/-- a callee runs, its answer no NotImplemented -/
theorem run_fnB {X : Cx} {CX : CXT} {k : Nat} {f : Addr} {fd : FuncData} {ps : List Str} {sp : Sp} {ds : List Value} {dvs : List V} {E : XK} {pins : List (Addr × Obj)} {σ : L2.St} {H : Hp} {s : Shared} {Q : VK} {us : List Value} {vs : List V} (F : FnOk X.prog X.w X.K X.mg X.base CX k f fd ps sp) (hr : Room k X.A) (hb : Binds X.K fd ps ds) (hd : Vals dvs ds) (hx : Passes CX X E)
    (I : Inv X pins σ H s) (r : Vals vs us) (h : sp (vs ++ dvs) H Q E) : wpAny (model X.prog X.w) X.A (call (.ref f) us) (PySem.W.CmpBack (EP X pins σ Q)) X.xe s := by
  refine wpAny_mono (run_fn F hr hb hd hx I r h) (fun v s' hv => ?_) fun _ _ e => e
  obtain ⟨u, H', I', ru, q⟩ := hv
  cases v with
  | notImplemented =>
    exfalso
    cases u with
    | non => cases ru
    | bl _ => cases ru
    | int _ => obtain ⟨_, z⟩ := ru; cases z
    | str _ => obtain ⟨_, z⟩ := ru; cases z
    | byt _ => obtain ⟨_, z⟩ := ru; cases z
    | flt _ => obtain ⟨_, z⟩ := ru; cases z
    | ref _ => cases ru
    | ty _ => cases ru
  | _ => exact ⟨u, H', I', ru, q⟩
section
variable {X : Cx} {CX : CXT} {k : Nat} {f C : Addr} {fd : FuncData} {ps : List Str} {sp : Sp} {E : XK}
def rOwn2 (C : Addr) (sp : Sp) (E : XK) : R2 := fun x y H Q => ∃ (a b dx dy : Addr) (fs gs : List (Str × V)), x = .ref a ∧ y = .ref b ∧ H a = some (.ins C dx fs) ∧ H b = some (.ins C dy gs) ∧ sp [.ref a, .ref b] H Q E
theorem op_own {op : Operator} (hc : PySem.W.selfFirst X.K C = true) (hm : Meth X.K C (PySem.dunder op.info.2) f) (F : FnOk X.prog X.w X.K X.mg X.base CX k f fd ps sp) (hr : Room k X.A) (hb : Binds X.K fd ps []) (hx : Passes CX X E) : OpR X (binaryOp op) (rOwn2 C sp E) := by
  intro pins s σ H x y v u Q I rx ry hq
  obtain ⟨a, b, dx, dy, fs, gs, rfl, rfl, ha, hb', h⟩ := hq
  cases rx
  cases ry
  obtain ⟨mA, J, _⟩ := ins_get I.hok ha
  obtain ⟨mB, J', _⟩ := ins_get I.hok hb'
  obtain ⟨od, J, _⟩ := J.look
  obtain ⟨od', J', _⟩ := J'.look
  exact bin_same I.kIn J J'.type hc hm.at_ hm.fn (run_fnB (us := [.ref a, .ref b]) (vs := [.ref a, .ref b]) F hr hb .nil hx I (.cons rfl (.cons rfl .nil)) h)
def rOwn1 (C : Addr) (sp : Sp) (E : XK) : V → Hp → VK → Prop := fun x H Q => ∃ (a dx : Addr) (fs : List (Str × V)), x = .ref a ∧ H a = some (.ins C dx fs) ∧ sp [.ref a] H Q E
theorem un_own (hm : Meth X.K C "__invert__" f) (F : FnOk X.prog X.w X.K X.mg X.base CX k f fd ps sp) (hr : Room k X.A) (hb : Binds X.K fd ps []) (hx : Passes CX X E) : UnR X (unaryOp .Invert) (rOwn1 C sp E) := by
  intro pins s σ H x v Q I rx hq
  obtain ⟨a, dx, fs, rfl, ha, h⟩ := hq
  cases rx
  obtain ⟨mA, J, _⟩ := ins_get I.hok ha
  obtain ⟨od, J, _⟩ := J.look
  exact inv_own I.kIn J hm.at_ hm.fn (run_fn (us := [.ref a]) (vs := [.ref a]) F hr hb .nil hx I (.cons rfl .nil) h)
end
/-! ### == and != by an own __eq__ -/
/-- the right side's type -/
def TyE (K : PySem.W.Frag) (C : Addr) (H : Hp) (y : V) (t : Value) : Prop := (∃ (b dy : Addr) (gs : List (Str × V)), y = .ref b ∧ H b = some (.ins C dy gs) ∧ t = .ref C) ∨ TyX K H y t
theorem tyE_looks {X : Cx} {C : Addr} {pins : List (Addr × Obj)} {σ : L2.St} {H : Hp} {s : Shared} {y : V} {u t : Value} (I : L2.Inv X pins σ H s) (ry : L2.RelV y u) (ty : TyE X.K C H y t) (M : Model) : PySem.W.Looks M s.heap (typeOf u) t := by
  rcases ty with ⟨b, dy, gs, rfl, hb, rfl⟩ | ty
  · cases ry
    obtain ⟨mB, J, _⟩ := ins_get I.hok hb
    obtain ⟨od, J, _⟩ := J.look
    exact J.type
  · obtain ⟨P, Z, p, _⟩ := kit_of I ry ty
    exact Z.ty M s.heap I.kIn p
section
open PySem.W
variable {prog : Program} {w : World} {A : Around} {E : Value → Shared → Prop} {s : Shared} {K : Frag} {x C L f : Addr} {h₀ : Heap} {m : Str → Option Value} {ox : Obj} {od : Option Obj} {b tb : Value}
theorem neCall {Q : Value → Shared → Prop} (hu : A.units + 1 < cLine) (X : K.In s.heap) (I : InstAt s.heap x ox C od) (hob : mroIn K C (.type "object") = some true)
    (hs : findIn K (.ref C) "__eq__" = some (some (.ref f))) (hf : isFn K (.ref f) = true)
    (h : wpAny (model prog w) A.in1 (call (.ref f) [.ref x, b]) (fun v s' => ∃ k, v = .bool k ∧ Q (.bool (!k)) s') E s) : wpAny (model prog w) A (call (.builtin "object.__ne__") [.ref x, b]) Q E s := by
  have sub : Looks (model prog w) s.heap (isInstance (.ref x) (.type "object")) true := I.type.andThen (looks_mroIn X hob)
  refine wpAny_call (codeAny_call_builtin (by decide +kernel) F.cmpEntry_ne (check_slot F.cmpKind_ne F.cmpSplit_ne sub (F.cmpArgs_ne _ _) ?_))
  unfold Builtin.«object.__ne__»
  repeat (first
    | with_reducible refine wpAny_cRoomFor hu ?_
    | (refine wpAny_bind (m := callSpecialIfBound? (.ref x) (Str.ofString "__eq__") [b]) (ifBound_K X I hs hf (wpAny_mono h (fun r s' hr => by
          obtain ⟨k, rfl, hq⟩ := hr
          repeat (first | exact hq | exact wpAny_pure hq | exact wpAny_truthy_bool hq | (refine wpAny_bind (m := truthy (.bool _)) (wpAny_truthy_bool ?_)) | wp_step)) fun _ _ e => e)))
    | wp_step)
theorem ne_own {Q : Value → Shared → Prop} (hu : A.units + 1 < cLine) (X : K.In s.heap) (I : InstAt s.heap x ox C od) (hb : Looks (model prog w) s.heap (typeOf b) tb) (hn : notFirst K C tb = true) (hob : mroIn K C (.type "object") = some true)
    (hne : findIn K (.ref C) "__ne__" = some (some (.builtin "object.__ne__"))) (hs : findIn K (.ref C) "__eq__" = some (some (.ref f))) (hf : isFn K (.ref f) = true)
    (h : wpAny (model prog w) A.in1 (call (.ref f) [.ref x, b]) (fun v s' => ∃ k, v = .bool k ∧ Q (.bool (!k)) s') E s) : wpAny (model prog w) A (richCompare .NotEq (.ref x) b) Q E s := by
  have one : wpAny (model prog w) A (tryCompare (.ref x) (cmpInfo .NotEq).2.1 b) (fun r s' => ∃ v, r = some v ∧ Q v s') E s := by
    unfold tryCompare
    have fin : wpAny (model prog w) A (call (.builtin "object.__ne__") ([.ref x] ++ [b]) >>= fun v => pure (some v)) (fun r s' => ∃ k, r = some (Value.bool k) ∧ Q (.bool k) s') E s :=
      wpAny_bind (neCall (Q := fun v s' => wpAny (model prog w) A (pure (some v)) _ E s') hu X I hob hs hf (wpAny_mono h (fun v s' h' => by
        obtain ⟨k, e, q⟩ := h'
        exact ⟨k, e, wpAny_pure ⟨_, rfl, q⟩⟩) fun _ _ h' => h'))
    refine wpAny_bind (wpAny_mono (Q := fun r s' => ∃ k, r = some (Value.bool k) ∧ Q (.bool k) s') (E := E) ?_ (fun r s' hr => ?_) fun _ _ e => e)
    · simp only [callSpecialIfBound?, bindSpecialIfBound?]
      refine wpAny_holding (wpAny_bind (wpAny_bind (wpAny_bind (I.type.here ((looks_findIn X hne).here ?_)))))
      refine wpAny_bind (wpAny_askSetting (wpAny_ite ?_))
      have hbd : bindSpecial (.builtin "object.__ne__") (.ref x) = pure (.builtin "object.__ne__", [.ref x]) := F.slot_zip_ne.bind _
      split
      · rw [hbd]
        exact wpAny_bind (wpAny_pure (wpAny_pure (by exact fin)))
      · rw [hbd]
        exact wpAny_tryCatch (wpAny_bind (wpAny_pure (wpAny_pure (by exact fin))))
    · obtain ⟨k, rfl, q⟩ := hr
      exact wpAny_pure ⟨_, rfl, q⟩
  unfold richCompare
  simp only [oneThing_ref]
  refine wpAny_holding (wpAny_bind (wpAny_cRoomFor (by omega) ?_))
  refine wpAny_bind (I.type.here (wpAny_bind (hb.here ?_)))
  split
  · rename_i q
    have e : subIn K tb (.ref C) = some false := by
      rcases Bool.or_eq_true_iff.mp hn with e | e
      · rw [beq_iff_eq.mp e] at q; simp at q
      · exact beq_iff_eq.mp e
    refine wpAny_bind ((looks_subIn X e).here ?_)
    simp only [Bool.false_eq_true, if_false]
    refine wpAny_bind (wpAny_mono one (fun r s' z => ?_) fun _ _ e => e)
    obtain ⟨v, rfl, hq⟩ := z
    exact wpAny_pure hq
  · refine wpAny_bind (wpAny_pure ?_)
    simp only [Bool.false_eq_true, if_false]
    refine wpAny_bind (wpAny_mono one (fun r s' z => ?_) fun _ _ e => e)
    obtain ⟨v, rfl, hq⟩ := z
    exact wpAny_pure hq
end
/-- what the text says of C's == -/
structure EqTxt (K : PySem.W.Frag) (C f : Addr) : Prop where
  eq : Meth K C "__eq__" f
  ne : PySem.W.findIn K (.ref C) "__ne__" = some (some (.builtin "object.__ne__"))
  ob : PySem.W.mroIn K C (.type "object") = some true
section
variable {X : Cx} {CX : CXT} {k : Nat} {f C : Addr} {fd : FuncData} {ps : List Str} {sp : Sp} {E : XK}
def rEqO (K : PySem.W.Frag) (C : Addr) (sp : Sp) (E : XK) : R2 := fun x y H Q => ∃ (a dx : Addr) (fs : List (Str × V)) (t : Value), x = .ref a ∧ H a = some (.ins C dx fs) ∧ TyE K C H y t ∧ PySem.W.notFirst K C t = true ∧ sp [.ref a, y] H Q E
theorem op_eqO (T : EqTxt X.K C f) (F : FnOk X.prog X.w X.K X.mg X.base CX k f fd ps sp) (hr : Room k X.A) (hb : L2.Binds X.K fd ps []) (hx : Passes CX X E) : OpR X (compareOp .Eq) (rEqO X.K C sp E) := by
  intro pins s σ H x y v u Q I rx ry hq
  obtain ⟨a, dx, fs, t, rfl, ha, ty, hn, h⟩ := hq
  cases rx
  obtain ⟨mA, J, _⟩ := ins_get I.hok ha
  obtain ⟨od, J, _⟩ := J.look
  obtain ⟨m, hF⟩ := I.fr
  show wpAny (model X.prog X.w) X.A (richCompare .Eq (.ref a) u) (EP X pins σ Q) X.xe s
  exact PySem.W.cmp_K (op := .Eq) (tb := t) hr.units0 hF I.ok.mod.kin J (tyE_looks I ry ty _) hn T.eq.at_ T.eq.fn (run_fnB (us := [.ref a, u]) (vs := [.ref a, y]) F hr hb .nil hx I (.cons rfl (.cons ry .nil)) h)
def rNeO (K : PySem.W.Frag) (C : Addr) (sp : Sp) (E : XK) : R2 := fun x y H Q => ∃ (a dx : Addr) (fs : List (Str × V)) (t : Value), x = .ref a ∧ H a = some (.ins C dx fs) ∧ TyE K C H y t ∧ PySem.W.notFirst K C t = true ∧ sp [.ref a, y] H (fun v H' => ∃ k, v = .bl k ∧ Q (.bl (!k)) H') E
theorem op_neO (T : EqTxt X.K C f) (F : FnOk X.prog X.w X.K X.mg X.base CX k f fd ps sp) (hr : Room (k + 1) X.A) (hb : L2.Binds X.K fd ps []) (hx : Passes CX X E) : OpR X (compareOp .NotEq) (rNeO X.K C sp E) := by
  intro pins s σ H x y v u Q I rx ry hq
  obtain ⟨a, dx, fs, t, rfl, ha, ty, hn, h⟩ := hq
  cases rx
  obtain ⟨mA, J, _⟩ := ins_get I.hok ha
  obtain ⟨od, J, _⟩ := J.look
  show wpAny (model X.prog X.w) X.A (richCompare .NotEq (.ref a) u) (EP X pins σ Q) X.xe s
  refine ne_own (hu_of hr) I.kIn J (tyE_looks I ry ty _) hn T.ob T.ne T.eq.at_ T.eq.fn ?_
  have hl := F.len _ _ _ _ h
  have r2 : Vals [V.ref a, y] [Value.ref a, u] := .cons rfl (.cons ry .nil)
  refine wpAny_call (codeAny_mono (F.run X.A.in1 X.stack s H ⟨[.ref a, u], []⟩ [.ref a, u] [.ref a, y] _ E hr.in1 I.env0.in1 (by
    have := hb s [.ref a, u] I.kIn (by simpa using hl)
    simpa using this) r2 h) fun r s' hq => ?_)
  cases r with
  | error e => exact hx pins σ H s e s' I hq
  | ok fl =>
    cases fl with
    | ret w =>
      obtain ⟨v, H', I', rv, k, rfl, q⟩ := I.after hq
      cases rv
      exact ⟨k, rfl, .bl (!k), H', I', rfl, q⟩
    | next => exact False.elim hq
    | brk => exact False.elim hq
    | cont => exact False.elim hq
end
end WW
namespace WW
open PySem PySem.Spec PyProof.Rows L2
/-! ### len(o) by an own __len__ -/
section
variable {X : Cx} {CX : CXT} {k : Nat} {f C : Addr} {fd : FuncData} {ps : List Str} {sp : Sp} {E : XK}
def rLenO (C : Addr) (sp : Sp) (E : XK) : List V → Hp → VK → Prop := fun xs H Q => ∃ (a dx : Addr) (fs : List (Str × V)), xs = [.ref a] ∧ H a = some (.ins C dx fs) ∧ sp [.ref a] H (fun v H' => ∃ n : Int, v = .int n ∧ 0 ≤ n ∧ n < 2 ^ 63 ∧ Q (.int n) H') E
theorem call_lenO (hm : Meth X.K C "__len__" f) (F : FnOk X.prog X.w X.K X.mg X.base CX k f fd ps sp) (hr : Room (k + 1) X.A) (hb : L2.Binds X.K fd ps []) (hx : Passes CX X E) : CallR X (.builtin "len") (rLenO C sp E) := by
  intro pins s σ H xs us Q I r h
  obtain ⟨a, dx, fs, rfl, ha, h⟩ := h
  obtain ⟨u, rfl, ru⟩ := vals1 r
  cases ru
  obtain ⟨mA, J, _⟩ := ins_get I.hok ha
  obtain ⟨od, J, _⟩ := J.look
  obtain ⟨m, hF⟩ := I.fr
  refine PySem.W.len_K hF I.ok.mod.kin J hm.at_ hm.fn ?_
  have hl := F.len _ _ _ _ h
  refine wpAny_call (codeAny_mono (F.run X.A.in1 X.stack s H ⟨[.ref a], []⟩ [.ref a] [.ref a] _ E hr.in1 I.env0.in1 (by
    have := hb s [.ref a] I.kIn (by simpa using hl)
    simpa using this) (.cons rfl .nil) h) fun r s' hq => ?_)
  cases r with
  | error e => exact hx pins σ H s e s' I hq
  | ok fl =>
    cases fl with
    | ret w =>
      obtain ⟨v, H', I', rv, n, rfl, h0, h1, q⟩ := I.after hq
      obtain ⟨t, rfl⟩ := rv
      exact ⟨⟨h0, h1⟩, .int n, H', I'.tok _, ⟨_, rfl⟩, q⟩
    | next => exact False.elim hq
    | brk => exact False.elim hq
    | cont => exact False.elim hq
end
/-! ### for x in o, o's own __iter__ giving a list's iterator -/
theorem walk_listF {K : PySem.W.Frag} {a : Addr} {xs : List V} : Walk (ItX.ItlF K a 0) xs.length (fun H => SqL K H a xs) (YAt xs) := by
  refine ⟨fun i H hi q => ?_, fun H q => ?_, fun i H x H' hi q y => ?_⟩
  · show (Itl K a).go (0 + i) H
    rw [Nat.zero_add]
    exact (walk_list (K := K) (a := a) (xs := xs)).goes i H hi q
  · show (Itl K a).stop (0 + xs.length) H
    rw [Nat.zero_add]
    exact (walk_list (K := K) (a := a) (xs := xs)).stops H q
  · have y : (Itl K a).yld (0 + i) H x H' := y
    rw [Nat.zero_add] at y
    exact (walk_list (K := K) (a := a) (xs := xs)).yields i H x H' hi q y
section
variable {X : Cx} {k : Nat} {g C : Addr} {fd : FuncData} {nm qual : Str} {st : Stmt} {N : List Str} {te : TE} {e tg : Expr} {Pi : Hp → Addr → Addr → Prop}
def iOwn (K : PySem.W.Frag) (C : Addr) (Pi : Hp → Addr → Addr → Prop) (te : TE) : TI := fun σ H R => te σ H fun x H1 => ∃ (a l dx : Addr) (fs : List (Str × V)), x = .ref a ∧ H1 a = some (.ins C dx fs) ∧ Pi H1 a l ∧ R (ItX.ItlF K l 0) H1
theorem pi_own (he : PE X e te) (hm : Meth X.K C "__iter__" g) (F : Fun X.K nm qual st g fd) (S : FnScope N ["self"] (defScope st)) (hb : L2.Binds X.K fd ["self"] []) (hr : Room (k + 1) X.A)
    (hbody : ∀ (cdv : Value) (A : Around) (outer : List Env) (s : Shared) (H : Hp) (a l : Addr) (Q : VK), Room k (A.deeper (envOfC qual (defScope st) s.heap.objs.size g cdv)) → Pi H a l → (∀ it, H it = none → s.heap.objs.size ≤ it → Q (.ref it) (upd H it (ItO l it 0))) →
      ∃ t, PSs (cxOf CX0 X.prog X.w X.K X.mg X.base N qual (defScope st) g cdv A outer s H E0).nox (defBody st) t ∧ t { nx := fun _ H' => Q .non H', rt := Q } (start N [.ref a]) H) :
    PI X tg e (iOwn X.K C Pi te) := by
  refine ⟨fun pins s σ H R I h => ?_⟩
  refine thn (he.run pins s σ H _ I h) fun u s1 ⟨x, H1, I1, rx, a, l, dx, fs, ex, ha, hp, hR⟩ => ?_
  subst ex
  cases rx
  obtain ⟨mA, J, _⟩ := ins_get I1.hok ha
  obtain ⟨od, J, _⟩ := J.look
  obtain ⟨m, hF⟩ := I1.fr
  refine PySem.W.owit_iter hF I1.ok.mod.kin J hm.at_ hm.fn ?_
  obtain ⟨oc, od', kV, doc, pm, an, cdv, ct, osl, rfl, lk, hcd⟩ := F.ex
  have hb1 := hb s1 [.ref a] I1.kIn rfl
  rw [List.append_nil] at hb1
  refine wpAny_call (codeAny_mono (LamX.run_ofS (CX := CX0) (P := X.prog) (w := X.w) (mg := X.mg) (base := X.base) (k := k) (N := N) (ps := ["self"]) (E := E0) (vs := [.ref a]) (us := [.ref a])
    (Q := fun v H' => ∃ it, v = .ref it ∧ H1 it = none ∧ s1.heap.objs.size ≤ it ∧ H' = upd H1 it (ItO l it 0)) lk hcd S hr I1.env0 hb1 (.cons rfl .nil) rfl fun hr' => ?_) fun r s' hq => ?_)
  · obtain ⟨t, h1, h2⟩ := hbody cdv X.A X.stack s1 H1 a l (fun v H' => ∃ it, v = .ref it ∧ H1 it = none ∧ s1.heap.objs.size ≤ it ∧ H' = upd H1 it (ItO l it 0)) hr' hp fun it hn hz => ⟨it, rfl, hn, hz, rfl⟩
    exact ⟨t, h1.nox, h2⟩
  · cases r with
    | error e => exact False.elim hq
    | ok fl =>
      cases fl with
      | ret w =>
        obtain ⟨v, H', I', rv, it, rfl, hn, hz, rfl⟩ := I1.after hq
        cases rv
        have hit : (upd H1 it (ItO l it 0)) it = some (ItO l it 0) := upd_same
        have eo := itO_get I' hit
        have st : s'.heap.IsListIter it l (0 + 0) := ⟨_, eo, rfl, rfl⟩
        have hT : s'.TypeIs (.ref it) "list_iterator" := ⟨_, eo, rfl⟩
        have dr : ItX.dropH (upd H1 it (ItO l it 0)) it = H1 := by
          funext b
          by_cases hb : b = it
          · rw [hb, ItX.dropH_same, hn]
          · rw [ItX.dropH_ne hb, upd_ne hb]
        refine wpAny_specialOf (name := Str.ofString "__next__") hT slot_listiter_next.lookup ?_
        have hi' := hit
        unfold ItO at hi'
        have I2 := ItX.inv_drop I' hi'
        have fp := ItX.inv_fp I' hit (Nat.le_trans I1.sz hz)
        rw [dr] at I2 fp
        refine ⟨it, [it], _, _, H1, rfl, I2, ItX.turn_listF l it 0, st, fun b hb => ?_, hR⟩
        have e : b = it := by simpa using hb
        rw [e]
        exact fp
      | next => exact False.elim hq
      | brk => exact False.elim hq
      | cont => exact False.elim hq
end
end WW
namespace WW
open PySem PySem.Spec PyProof.Rows L2
/-! ### dicts from texts to texts -/
abbrev SM := List (Str × Str)
def dS (m : SM) : List (Key × V) := m.map fun p => (Sum.inr p.1, V.str p.2)
theorem dS_length (m : SM) : (dS m).length = m.length := List.length_map _
theorem valV_dS (m : SM) (k : Str) : valV (dS m) (Sum.inr k : Key) = (m.lookup k).map V.str := by
  induction m with
  | nil => rfl
  | cons p r ih =>
    show ((((Sum.inr p.1 : Key), V.str p.2) :: dS r).find? _).map _ = _
    rw [List.find?_cons, List.lookup_cons]
    by_cases h : k = p.1
    · subst h
      simp
    · have h1 : decide ((Sum.inr p.1 : Key) = Sum.inr k) = false := decide_eq_false (fun z => h (Sum.inr.inj z).symm)
      have h2 : (k == p.1) = false := by simpa using h
      rw [h1, h2]
      exact ih
def dEq (m n : SM) : Bool := m.length == n.length && m.all fun p => decide (n.lookup p.1 = some p.2)
section
variable {X : Cx}
theorem hits_S {A : Around} {s : Shared} {n : SM} {vb : List (Key × Value)} (rb : KV (dS n) vb) : ∀ {m : SM} {va : List (Key × Value)}, KV (dS m) va → PySem.W.KeqHits A s vb va (m.all fun p => decide (n.lookup p.1 = some p.2))
  | [], [], .nil => .nil
  | p :: m, (k, v) :: va, .cons h t => by
    obtain ⟨h1, h2⟩ := h
    have h1 : (Sum.inr p.1 : Key) = k := h1
    subst h1
    obtain ⟨tk, rfl⟩ : ∃ tk, v = Value.str p.2 tk := h2
    have rr := rb.val (Sum.inr p.1 : Key)
    rw [valV_dS] at rr
    rw [List.all_cons]
    cases e : n.lookup p.1 with
    | none =>
      rw [e] at rr
      have hn : valueAt vb (Sum.inr p.1 : Key) = none := RelO.none_of rr
      rw [show decide (none = some p.2) = false from rfl, Bool.false_and]
      exact .miss hn
    | some z =>
      rw [e] at rr
      obtain ⟨y, hy, tk', rfl⟩ := RelO.some_of rr
      rw [show decide (some z = some p.2) = (p.2 == z) by rw [Bool.eq_iff_iff]; simp only [decide_eq_true_eq, Option.some.injEq, beq_iff_eq]; exact eq_comm]
      exact .hit hy (SeqAt.EqAt.str_str _ _ _ _) (hits_S rb t)
def rEqDS : R2 := fun x y H Q => ∃ (a b : Addr) (m n : SM), x = .ref a ∧ y = .ref b ∧ H a = some (.dK (dS m)) ∧ H b = some (.dK (dS n)) ∧ Q (.bl (dEq m n)) H
def rNeDS : R2 := fun x y H Q => ∃ (a b : Addr) (m n : SM), x = .ref a ∧ y = .ref b ∧ H a = some (.dK (dS m)) ∧ H b = some (.dK (dS n)) ∧ Q (.bl (!dEq m n)) H
theorem op_eqDS (hu : X.A.units < cLine) : OpR X (compareOp .Eq) rEqDS := by
  intro pins s σ H x y v u Q I rx ry h
  obtain ⟨a, b, m, n, rfl, rfl, ea, eb, q⟩ := h
  obtain rfl : v = Value.ref a := rx
  obtain rfl : u = Value.ref b := ry
  obtain ⟨_, ya, va, ra, da⟩ := (show ObjOk X.prog X.w H s.heap a (.dK (dS m)) from I.hok a _ ea)
  obtain ⟨_, yb, vb, rb, db⟩ := (show ObjOk X.prog X.w H s.heap b (.dK (dS n)) from I.hok b _ eb)
  have l1 : va.length = m.length := by rw [← ra.length, dS_length]
  have l2 : vb.length = n.length := by rw [← rb.length, dS_length]
  exact PySem.W.keq_eq (knd := mixKind X.prog X.w) ya yb da db hu (fun _ => hits_S rb ra) (fin_bl I q (by rw [l1, l2]; rfl))
theorem op_neDS (hu : X.A.units < cLine) : OpR X (compareOp .NotEq) rNeDS := by
  intro pins s σ H x y v u Q I rx ry h
  obtain ⟨a, b, m, n, rfl, rfl, ea, eb, q⟩ := h
  obtain rfl : v = Value.ref a := rx
  obtain rfl : u = Value.ref b := ry
  obtain ⟨_, ya, va, ra, da⟩ := (show ObjOk X.prog X.w H s.heap a (.dK (dS m)) from I.hok a _ ea)
  obtain ⟨_, yb, vb, rb, db⟩ := (show ObjOk X.prog X.w H s.heap b (.dK (dS n)) from I.hok b _ eb)
  have l1 : va.length = m.length := by rw [← ra.length, dS_length]
  have l2 : vb.length = n.length := by rw [← rb.length, dS_length]
  exact PySem.W.keq_ne (knd := mixKind X.prog X.w) ya yb da db hu (fun _ => hits_S rb ra) (fin_bl I q (by rw [l1, l2]; rfl))
/-- two lists of two such dicts each -/
def rEqDS2 : R2 := fun x y H Q => ∃ (a b a1 a2 b1 b2 : Addr) (m1 m2 n1 n2 : SM), x = .ref a ∧ y = .ref b ∧ H a = some (.lst [.ref a1, .ref a2]) ∧ H b = some (.lst [.ref b1, .ref b2]) ∧ a1 ≠ b1 ∧ a2 ≠ b2 ∧
  H a1 = some (.dK (dS m1)) ∧ H b1 = some (.dK (dS n1)) ∧ H a2 = some (.dK (dS m2)) ∧ H b2 = some (.dK (dS n2)) ∧ Q (.bl (dEq m1 n1 && dEq m2 n2)) H
theorem eqP_dS {A : Around} {pins : List (Addr × Obj)} {σ : L2.St} {H : Hp} {s : Shared} {a b : Addr} {m n : SM} (I : L2.Inv X pins σ H s) (hu : A.units < cLine) (hne : a ≠ b) (ea : H a = some (.dK (dS m))) (eb : H b = some (.dK (dS n))) : SeqAt.EqP X.prog X.w A s (.ref a) (.ref b) (dEq m n) := by
  obtain ⟨_, ya, va, ra, da⟩ := (show ObjOk X.prog X.w H s.heap a (.dK (dS m)) from I.hok a _ ea)
  obtain ⟨_, yb, vb, rb, db⟩ := (show ObjOk X.prog X.w H s.heap b (.dK (dS n)) from I.hok b _ eb)
  have l1 : va.length = m.length := by rw [← ra.length, dS_length]
  have l2 : vb.length = n.length := by rw [← rb.length, dS_length]
  refine SeqAt.eqP_refs hne fun E Q hq => ?_
  refine PySem.W.keq_eq (knd := mixKind X.prog X.w) (r := m.all fun p => decide (n.lookup p.1 = some p.2)) ya yb da db hu (fun _ => hits_S rb ra) ?_
  rw [l1, l2]
  exact hq
theorem op_eqDS2 (hu : X.A.units + 1 < cLine) : OpR X (compareOp .Eq) rEqDS2 := by
  intro pins s σ H x y v u Q I rx ry h
  obtain ⟨a, b, a1, a2, b1, b2, m1, m2, n1, n2, rfl, rfl, ea, eb, ne1, ne2, e1, f1, e2, f2, q⟩ := h
  obtain rfl : v = Value.ref a := rx
  obtain rfl : u = Value.ref b := ry
  obtain ⟨_, us, n, ru, hl⟩ := (show ObjOk X.prog X.w H s.heap a (.lst [.ref a1, .ref a2]) from I.hok a _ ea)
  obtain ⟨_, ws, n', rw', hl'⟩ := (show ObjOk X.prog X.w H s.heap b (.lst [.ref b1, .ref b2]) from I.hok b _ eb)
  obtain ⟨u1, u2, rfl, r1, r2⟩ := vals2 ru
  obtain ⟨w1, w2, rfl, r3, r4⟩ := vals2 rw'
  cases r1; cases r2; cases r3; cases r4
  show wpAny (model X.prog X.w) X.A (richCompare .Eq (.ref a) (.ref b)) (EP X pins σ Q) X.xe s
  refine SeqAt.rcP_lists (e := fun j => if j = 0 then dEq m1 n1 else dEq m2 n2) (items := #[.ref a1, .ref a2]) (items2 := #[.ref b1, .ref b2]) ⟨_, hl, rfl, _, rfl⟩ ⟨_, hl', rfl, _, rfl⟩ rfl (by omega) (fun j h1 h2 => ?_) X.xe _ ?_
  · have hj : j = 0 ∨ j = 1 := by
      have : j < 2 := h1
      omega
    rcases hj with rfl | rfl
    · exact eqP_dS (A := X.A.in1) I hu ne1 e1 f1
    · exact eqP_dS (A := X.A.in1) I hu ne2 e2 f2
  · refine fin_bl I q ?_
    show _ = ((List.range 2).all _)
    simp [List.range_succ]
end
end WW
namespace WW
open PySem PySem.Spec PyProof.Rows L2
section
variable {X : Cx}
/-- name = {k: v for ..} on one line, the name a local -/
theorem ps_setDc {i : Nat} {y : Str} {py : Pos} {kx vx tg iter : Expr} {ifs : List Expr} {scope : Scope} {own : List (Str × Nat)} {pos spos : Pos} {wi : TI} {g : TG} {tt : TT} {tk tv : TE} (hc : X.calm = true) (hN : X.N.Nodup) (hy : X.N[i]? = some y) (hyl : X.env.scope.names.lookup y = some .local)
    (hsw : swapsWith (.DictComp kx vx [⟨tg, iter, ifs, 0⟩] scope pos) (some (.Name y py)) spos.line X.env = pure true) (hi : PI X tg iter wi) (ok : BlkOk X.N X.env.scope scope own)
    (hg : ∀ (s : Shared) (H : Hp) (C : Addr) (cl : List (Str × Addr)) (fp : List Addr), PG (X.blk s H scope (compEnvC scope cl C X.env) fp) tg g) (ht : ∀ (s : Shared) (H : Hp) (C : Addr) (cl : List (Str × Addr)) (fp : List Addr), PTs (X.blk s H scope (compEnvC scope cl C X.env) fp) ifs tt)
    (hk : ∀ (s : Shared) (H : Hp) (C : Addr) (cl : List (Str × Addr)) (fp : List Addr), PE (X.blk s H scope (compEnvC scope cl C X.env) fp) kx tk)
    (he : ∀ (s : Shared) (H : Hp) (C : Addr) (cl : List (Str × Addr)) (fp : List Addr), PE (X.blk s H scope (compEnvC scope cl C X.env) fp) vx tv) (hs : ∀ x, foldedSetIterable iter X.env x = pure x := by intro _; rfl) :
    PS X (.Assign [.Name y py] (.DictComp kx vx [⟨tg, iter, ifs, 0⟩] scope pos) spos) (tAsg (tDc wi g tt tk tv (own.map (·.2))) (gName i)) := by
  refine ⟨fun pins s σ H D I h => ?_⟩
  rw [exec_Assign_Name_used _ _ _ _ hsw]
  refine wpAny_bind (wpAny_standAt (wpAny_bind ?_))
  show wpAny _ X.A (do let _ ← comprehension (.DictComp kx vx [⟨tg, iter, ifs, 0⟩] scope pos) scope X.env (firstIterPos [⟨tg, iter, ifs, 0⟩] pos) newDict false (eval iter X.env) (some (assign (.Name y py) X.env))) _ _ s
  have h : tDc wi g tt tk tv (own.map (·.2)) σ H (fun x H1 => gName i x σ H1 D.nx) := h
  refine wpAny_bind (thn (dc_core (Qf := fun _ s' => SP X pins D .next s') hc hN I hi ok hg ht hk he hs h fun L C s' m H' I' q hn f => ?_) fun _ s' hq => wpAny_pure (wpAny_pure hq))
  show wpAny _ _ (assign (.Name y py) X.env (.ref L)) _ _ _
  refine wpAny_assign_Name (store_ok2 (v := V.ref L) I' hN hy (.inl hyl) rfl (fun s2 I2 ⟨a, sb, ha⟩ => ?_) (.inr hyl))
  obtain ⟨f0, f1, f2, f3, f4, f5⟩ := f
  have haC : C ≠ a := by
    rcases ha with z | z
    · rw [z]; exact f1
    · exact fun e => f4 y a z e.symm
  refine ⟨m, hn.sameBut sb haC, fun h3 sb3 => ?_⟩
  exact ⟨_, H', I2.turned (t' := s2.toks) (fun b o hb e => (sb3.2 b hb).trans e) f0 f1 f3 f4 f5, q⟩
theorem swD_true {kx vx : Expr} {gs : List Comprehension} {scope : Scope} {pos py : Pos} {y : Str} {l : Nat} {env : Env} (hk : env.scope.kind = .function) (hy : env.scope.names.lookup y = some .local) (hl : (py.line == pos.line) = true)
    (ha : (scope.names.any fun (n, k) => n == y && (k == .local || k == .cell)) = false) : swapsWith (.DictComp kx vx gs scope pos) (some (.Name y py)) l env = pure true := by
  have ky : env.kindOf y = some .local := hy
  have hb : env.blockKind = .function := by unfold Env.blockKind; rw [hk]; rfl
  unfold swapsWith
  simp only [hb, ky, ha, Expr.pos, hl]
  rfl
end
end WW
namespace WW
open PySem PySem.Spec PyProof.Rows L2
theorem vals_S : ∀ {xs : List Str} {us : List Value}, Vals (xs.map V.str) us → us.length = xs.length ∧ ∀ (i : Nat) (x : Str), xs[i]? = some x → ∃ t, us[i]? = some (.str x t)
  | [], [], .nil => ⟨rfl, fun i x h => by simp at h⟩
  | x :: xs, u :: us, .cons h t => by
    obtain ⟨l, k⟩ := vals_S t
    obtain ⟨tk, rfl⟩ := h
    refine ⟨by simp [l], fun i y hy => ?_⟩
    cases i with
    | zero => cases hy; exact ⟨tk, rfl⟩
    | succ i => exact k i y hy
section
variable {X : Cx}
def rEqSL (K : PySem.W.Frag) (b : Bool) : R2 := fun x y H Q => ∃ (l r : Addr) (xs ys : List Str), x = .ref l ∧ y = .ref r ∧ SqL K H l (xs.map V.str) ∧ SqL K H r (ys.map V.str) ∧ Q (.bl (b == decide (xs = ys))) H
theorem range_all_eq {xs ys : List Str} (hl : xs.length = ys.length) : ((List.range xs.length).all fun j => xs[j]? == ys[j]?) = decide (xs = ys) := by
  rw [Bool.eq_iff_iff, decide_eq_true_eq, List.all_eq_true]
  constructor
  · intro h
    refine List.ext_getElem? fun i => ?_
    by_cases hi : i < xs.length
    · exact beq_iff_eq.mp (h i (List.mem_range.mpr hi))
    · rw [List.getElem?_eq_none (by omega), List.getElem?_eq_none (by omega)]
  · rintro rfl i _
    simp
theorem op_eqSL (hu : X.A.units < cLine) : OpR X (compareOp .Eq) (rEqSL X.K true) := by
  intro pins s σ H x y v u Q I rx ry h
  obtain ⟨l, r, xs, ys, rfl, rfl, hl, hr, q⟩ := h
  obtain rfl : v = Value.ref l := rx
  obtain rfl : u = Value.ref r := ry
  obtain ⟨us, rv, p, hz⟩ := I.list hl
  obtain ⟨ws, rw', p', hz'⟩ := I.list hr
  obtain ⟨l1, k1⟩ := vals_S rv
  obtain ⟨l2, k2⟩ := vals_S rw'
  by_cases e : xs.length = ys.length
  · refine SeqAt.eq_listAt (e := fun j => xs[j]? == ys[j]?) p.isList p'.isList (by simp [l1, l2, e]) hu (fun j h1 h2 => ?_) (fin_bl I q ?_)
    · have g1 : j < xs.length := by simpa [l1] using h1
      have g2 : j < ys.length := by simpa [l2] using h2
      obtain ⟨t, ht⟩ := k1 j xs[j] (by simp [g1])
      obtain ⟨t', ht'⟩ := k2 j ys[j] (by simp [g2])
      have a1 : us.toArray[j] = .str xs[j] t := by
        have := ht
        rw [List.getElem?_eq_getElem (by omega)] at this
        simpa using Option.some.inj this
      have a2 : ws.toArray[j] = .str ys[j] t' := by
        have := ht'
        rw [List.getElem?_eq_getElem (by omega)] at this
        simpa using Option.some.inj this
      rw [a1, a2, List.getElem?_eq_getElem g1, List.getElem?_eq_getElem g2]
      exact SeqAt.EqAt.str_str _ _ _ _
    · rw [show us.toArray.size = xs.length by simp [l1], range_all_eq e]
      simp
  · refine SeqAt.eq_list_lengthsAt p.isList p'.isList (by simp [l1, l2, e]) hu (fin_bl I q ?_)
    have : xs ≠ ys := fun z => e (by rw [z])
    simp [this]
end
end WW
namespace WW
open PySem PySem.Spec PyProof.Rows L2
/-! ### heaps -/
theorem Same.new {H H1 : Hp} {p : Addr} {o : HO} (s : Same H H1) (h : H1 p = none) : Same H (upd H1 p o) := fun b u e => by
  have e1 := s b u e
  rw [upd_ne (ne_of_none e1 h)]
  exact e1
theorem Same.put {H : Hp} {p : Addr} {o : HO} (h : H p = none) : Same H (upd H p o) := Same.new (Same.refl H) h
theorem Same.none {H H1 : Hp} {p : Addr} (s : Same H H1) (h : H1 p = none) : H p = none := s.free h
theorem getS {xs : List Str} {i : Nat} {x : V} (h : (xs.map V.str)[i]? = some x) : ∃ z, xs[i]? = some z ∧ x = V.str z := by
  rw [List.getElem?_map] at h
  cases e : xs[i]? with
  | none => rw [e] at h; cases h
  | some z => rw [e] at h; exact ⟨z, rfl, (Option.some.inj h).symm⟩
theorem lock_back {H : Hp} {d D : Addr} {u o x : HO} (hd : H d = some u) (hD : D ≠ d) : upd (upd (upd H d o) D x) d u = upd H D x := by
  funext b
  by_cases h1 : b = d
  · subst h1
    rw [upd_same, upd_ne (Ne.symm hD), hd]
  · rw [upd_ne h1]
    by_cases h2 : b = D
    · subst h2
      rw [upd_same, upd_same]
    · rw [upd_ne h2, upd_ne h2, upd_ne h1]
def top (i : Nat) : Stmt := PySem.Challenge.pw_wishedwires_k36_matchings_multiplied.main.body.getD i (.Pass ⟨0, 0, 0, 0⟩)
abbrev sInOrder : Stmt := top 6
abbrev sUnlike : Stmt := top 7
abbrev sOne : Stmt := top 9
/-- what the text leaves alone of the built-in names -/
structure Blt (mg : Str → Option Value) : Prop where
  sorted : mg "sorted" = none
  str : mg "str" = none
  len : mg "len" = none
  isinstance : mg "isinstance" = none
  all : mg "all" = none
  list : mg "list" = none
  dict : mg "dict" = none
  range : mg "range" = none
  enumerate : mg "enumerate" = none
  iter : mg "iter" = none
  int : mg "int" = none
def spInOrderL (K : PySem.W.Frag) : Sp := fun vs H Q _ => ∃ (a : Addr) (xs : List Str), vs = [.ref a] ∧ SqL K H a (xs.map V.str) ∧ xs.length < 64 ∧
  ∀ (p : Addr) (H' : Hp), Same H H' → H p = none → H' p = some (.lst ((sortS xs).map V.str)) → Q (.ref p) H'
def spInOrderD : Sp := fun vs H Q _ => ∃ (d : Addr) (m : SM), vs = [.ref d] ∧ H d = some (.dK (dS m)) ∧ m.length < 64 ∧
  ∀ (p : Addr) (H' : Hp), Same H H' → H p = none → H' p = some (.lst ((sortS (m.map (·.1))).map V.str)) → Q (.ref p) H'
section
variable {P : Program} {w : World} {K : PySem.W.Frag} {mg : Str → Option Value} {base : Heap}
theorem scIO : FnScope ["texts", "text"] ["texts"] (defScope sInOrder) := ⟨rfl, rfl, rfl, by decide +kernel, rfl, by decide +kernel, by decide +kernel⟩
theorem ok_inOrderL {f : Addr} {fd : FuncData} (F : Fun K "in_order" "in_order" sInOrder f fd) (T : Blt mg) : FnOk P w K mg base CX0 1 f fd ["texts"] (spInOrderL K) := by
  refine F.ok scIO (fun vs H Q E h => ?_) (fun cdv A outer s H vs Q E hr h => ?_)
  · obtain ⟨a, xs, rfl, _⟩ := h
    rfl
  · obtain ⟨a, xs, rfl, hS, hl, k⟩ := h
    refine ⟨_, pss_one (ps_ret (pe_callB cr_sortedS (by rfl) T.sorted (by decide +kernel) (pa_cons (pe_lc (own := [("text", 1)]) (g := gName 1) (tt := tYes) rfl scIO.nd (pi_list (pv 0)) (blkOk_by (own := [("text", 1)]) (N := ["texts", "text"]) (sc := defScope sInOrder) (by decide +kernel))
      (fun _ _ _ _ _ => pg_name (i := 1) scIO.nd rfl (Or.inl rfl)) (fun _ _ _ _ _ => pts_nil) (fun _ _ _ _ _ => pe_callTy SkE.call_str_str (by rfl) T.str (by decide +kernel) (pa_cons (pv 1) pa_nil))) pa_nil))), ?_⟩
    refine ⟨_, rfl, a, rfl, ⟨_, hS⟩, fun D hD => ?_⟩
    refine lcM (walk_list (K := K) (a := a) (xs := xs.map V.str)) (xs.map V.str) rfl (by rw [List.length_map]; omega) (fun acc => (Same.put hD).seq hS) (fun i x y acc H' hy hY => ?_) ?_
    · obtain ⟨rfl, hx⟩ := hY
      rw [hx] at hy
      cases hy
      obtain ⟨z, hz, rfl⟩ := getS hx
      refine ⟨rfl, fun R hR => ⟨rfl, _, rfl, _, rfl, hR⟩⟩
    · refine ⟨D, xs, rfl, SqL.of upd_same, hl, fun ys p hp hs hpn => ?_⟩
      rw [sortS_of hp hs]
      exact k p _ (Same.new (Same.put hD) hpn) (Same.none (Same.put hD) hpn) upd_same
theorem ok_inOrderD {f : Addr} {fd : FuncData} (F : Fun K "in_order" "in_order" sInOrder f fd) (T : Blt mg) : FnOk P w K mg base CX0 1 f fd ["texts"] spInOrderD := by
  refine F.ok scIO (fun vs H Q E h => ?_) (fun cdv A outer s H vs Q E hr h => ?_)
  · obtain ⟨a, xs, rfl, _⟩ := h
    rfl
  · obtain ⟨d, m, rfl, hd, hl, k⟩ := h
    refine ⟨_, pss_one (ps_ret (pe_callB cr_sortedS (by rfl) T.sorted (by decide +kernel) (pa_cons (pe_lock (pe_lc (own := [("text", 1)]) (g := gName 1) (tt := tYes) rfl scIO.nd (pi_keys (pv 0)) (blkOk_by (own := [("text", 1)]) (N := ["texts", "text"]) (sc := defScope sInOrder) (by decide +kernel))
      (fun _ _ _ _ _ => pg_name (i := 1) scIO.nd rfl (Or.inl rfl)) (fun _ _ _ _ _ => pts_nil) (fun _ _ _ _ _ => pe_callTy SkE.call_str_str (by rfl) T.str (by decide +kernel) (pa_cons (pv 1) pa_nil)))) pa_nil))), ?_⟩
    refine ⟨d, _, hd, trivial, fun od => ?_⟩
    refine ⟨_, rfl, d, od, rfl, .inl ⟨dS m, upd_same, fun D hD => ?_⟩⟩
    have hDd : D ≠ d := fun z => by rw [z, upd_same] at hD; cases hD
    have hD' : H D = none := by rw [upd_ne hDd] at hD; exact hD
    refine lcM (walk_keys (d := d) (o := od) (kvs := dS m)) ((m.map (·.1)).map V.str) (by simp [dS_length]) (by rw [dS_length]; omega) (fun acc => by rw [upd_ne (Ne.symm hDd), upd_same]) (fun i x y acc H' hy hY => ?_) ?_
    · obtain ⟨rfl, kk, v, e, rfl⟩ := hY
      obtain ⟨z, hz, rfl⟩ := getS hy
      unfold dS at e
      rw [List.getElem?_map] at e hz
      cases q : m[i]? with
      | none => rw [q] at e; cases e
      | some pr =>
        rw [q] at e hz
        cases e
        cases hz
        exact ⟨rfl, fun R hR => ⟨rfl, _, rfl, _, rfl, hR⟩⟩
    · refine ⟨by rw [upd_ne (Ne.symm hDd), upd_same], ?_⟩
      rw [lock_back hd hDd]
      refine ⟨D, m.map (·.1), rfl, SqL.of upd_same, by simpa using hl, fun ys p hp hs hpn => ?_⟩
      rw [sortS_of hp hs]
      exact k p _ (Same.new (Same.put hD') hpn) (Same.none (Same.put hD') hpn) upd_same
end
end WW
namespace WW
open PySem PySem.Spec PyProof.Rows L2
/-- a dict comprehension whose turns leave the heap as it is -/
theorem dcA {J : It} {n : Nat} {G : Hp → Prop} {Y : Nat → Hp → V → Hp → Prop} (w : Walk J n G Y) {g : TG} {tk tv : TE} {vs : List Nat} {σ : L2.St} {H1 : Hp} {D : Addr} {Qd : Hp → Prop} (A : Nat → List (Key × V)) (h0 : A 0 = []) (hz : ∀ i, i < n → (A i).length < sizeLine)
    (hG : ∀ acc, G (upd H1 D (.dK acc)))
    (hs : ∀ i x H', i < n → Y i (upd H1 D (.dK (A i))) x H' → H' = upd H1 D (.dK (A i)) ∧ ∀ (R : V → V → Hp → Prop), (∀ k z, A (i + 1) = putK (A i) k z → R (kV k) z H') →
      g x (wipe σ vs) H' fun σ2 H2 => wipe σ2 vs = wipe σ vs ∧ tk σ2 H2 fun y H4 => tv σ2 H4 fun z H5 => R y z H5)
    (hd : Qd (upd H1 D (.dK (A n)))) :
    ∃ W : Nat → Nat → Hp → Prop, (∃ m, W 0 m (upd H1 D (.dK []))) ∧ ∀ i m H, W i m H →
      (J.stop i H ∧ Qd H) ∨ (J.go i H ∧ ∃ Nx : Hp → Prop, (∀ H', Nx H' → ∃ m', m' < m ∧ W (i + 1) m' H') ∧ ∀ x H', J.yld i H x H' → g x (wipe σ vs) H' fun σ2 H2 => wipe σ2 vs = wipe σ vs ∧ tYes σ2 H2 fun b H3 =>
        if b = true then tk σ2 H3 fun y H4 => tv σ2 H4 fun z H5 => ∃ kvs k, y = kV k ∧ H5 D = some (.dK kvs) ∧ kvs.length < sizeLine ∧ Nx (upd H5 D (.dK (putK kvs k z))) else Nx H3) := by
  refine ⟨fun i m H => m = n - i ∧ i ≤ n ∧ H = upd H1 D (.dK (A i)), ⟨n, by simp, Nat.zero_le _, by rw [h0]⟩, ?_⟩
  rintro i m H ⟨rfl, hi, rfl⟩
  have q := hG (A i)
  by_cases hlt : i < n
  · refine .inr ⟨w.goes i _ hlt q, fun H' => H' = upd H1 D (.dK (A (i + 1))), fun H' p' => ⟨n - (i + 1), by omega, rfl, hlt, p'⟩, fun x H' y => ?_⟩
    obtain ⟨e, k⟩ := hs i x H' hlt (w.yields i _ x H' hlt q y)
    subst e
    unfold tYes
    simp only [if_true]
    exact k _ (fun kk z hy => ⟨A i, kk, rfl, upd_same, hz i hlt, by rw [upd_upd, hy]⟩)
  · have e : i = n := by omega
    subst e
    exact .inl ⟨w.stops _ q, hd⟩
theorem take_succ' {α : Type} {l : List α} {i : Nat} {x : α} (h : l[i]? = some x) : l.take (i + 1) = l.take i ++ [x] := by
  obtain ⟨hi, rfl⟩ := List.getElem?_eq_some_iff.mp h
  exact List.take_succ_eq_append_getElem hi
theorem nodup_take_not_mem {α : Type} {l : List α} (nd : l.Nodup) {i : Nat} {x : α} (h : l[i]? = some x) : x ∉ l.take i := by
  obtain ⟨hi, rfl⟩ := List.getElem?_eq_some_iff.mp h
  intro hm
  obtain ⟨j, hj, e⟩ := List.getElem_of_mem hm
  rw [List.getElem_take] at e
  rw [List.length_take] at hj
  exact List.pairwise_iff_getElem.mp nd j i (by omega) hi (by omega) e
theorem nodup_map {α β : Type} {f : α → β} (hf : ∀ a b, f a = f b → a = b) {l : List α} (nd : l.Nodup) : (l.map f).Nodup := List.Pairwise.map f (fun a b h e => h (hf a b e)) nd
theorem putK_map {α : Type} (f : α → Key) (gv : α → V) {l : List α} {i : Nat} {x : α} (nd : (l.map f).Nodup) (h : l[i]? = some x) : (l.take (i + 1)).map (fun a => (f a, gv a)) = putK ((l.take i).map fun a => (f a, gv a)) (f x) (gv x) := by
  have hn : valV ((l.take i).map fun a => (f a, gv a)) (f x) = none := by
    unfold valV
    rw [Option.map_eq_none_iff, List.find?_eq_none]
    intro p hp
    obtain ⟨a, ha, rfl⟩ := List.mem_map.mp hp
    simp only [decide_eq_true_eq]
    intro e
    have hx : (l.map f)[i]? = some (f x) := by rw [List.getElem?_map, h]; rfl
    refine nodup_take_not_mem nd hx ?_
    rw [← List.map_take]
    exact List.mem_map.mpr ⟨a, ha, e⟩
  rw [putK_new _ hn, take_succ' h, List.map_append]
  rfl
/-! ### are_unlike, is_one_to_one -/
def spUnlike (K : PySem.W.Frag) : Sp := fun vs H Q _ => ∃ (a : Addr) (xs : List Str), vs = [.ref a] ∧ SqL K H a (xs.map V.str) ∧ xs.length < 64 ∧ xs.Nodup ∧ ∀ H', Same H H' → Q (.bl true) H'
def spOne : Sp := fun vs H Q _ => ∃ (d : Addr) (m : SM), vs = [.ref d] ∧ H d = some (.dK (dS m)) ∧ m.length < 64 ∧ (m.map (·.2)).Nodup ∧ ∀ H', Same H H' → Q (.bl true) H'
section
variable {P : Program} {w : World} {K : PySem.W.Frag} {mg : Str → Option Value} {base : Heap}
theorem scU : FnScope ["some", "name"] ["some"] (defScope sUnlike) := ⟨rfl, rfl, rfl, by decide +kernel, rfl, by decide +kernel, by decide +kernel⟩
theorem ok_unlike {f : Addr} {fd : FuncData} (F : Fun K "are_unlike" "are_unlike" sUnlike f fd) (T : Blt mg) : FnOk P w K mg base CX0 1 f fd ["some"] (spUnlike K) := by
  refine F.ok scU (fun vs H Q E h => ?_) (fun cdv A outer s H vs Q E hr h => ?_)
  · obtain ⟨a, xs, rfl, _⟩ := h
    rfl
  · obtain ⟨a, xs, rfl, hS, hl, nd, k⟩ := h
    refine ⟨_, pss_one (ps_ret (pe_cmpR op_eq (pe_callB call_lenD (by rfl) T.len PySem.boot_len (pa_cons (pe_dc (own := [("name", 1)]) (g := gName 1) (tt := tYes) rfl scU.nd (pi_list (pv 0)) (blkOk_by (own := [("name", 1)]) (N := ["some", "name"]) (sc := defScope sUnlike) (by decide +kernel))
      (fun _ _ _ _ _ => pg_name (i := 1) scU.nd rfl (Or.inl rfl)) (fun _ _ _ _ _ => pts_nil) (fun _ _ _ _ _ => pv 1) (fun _ _ _ _ _ => pe_bl)) pa_nil)) (pe_callB call_len_seq (by rfl) T.len PySem.boot_len (pa_cons (pv 0) pa_nil)) (nomark _))), ?_⟩
    refine ⟨_, rfl, a, rfl, ⟨_, hS⟩, fun D hD => ?_⟩
    refine dcA (walk_list (K := K) (a := a) (xs := xs.map V.str)) (fun i => (xs.take i).map fun x => (Sum.inr x, V.bl true)) (by simp) (fun i hi => small1000 (by rw [List.length_map, List.length_take]; omega)) (fun acc => (Same.put hD).seq hS) (fun i x H' hi hY => ?_) ?_
    · obtain ⟨rfl, hx⟩ := hY
      obtain ⟨z, hz, rfl⟩ := getS hx
      refine ⟨rfl, fun R hR => ⟨rfl, _, rfl, ?_⟩⟩
      exact hR (Sum.inr z) (.bl true) (putK_map (fun x => (Sum.inr x : Key)) (fun _ => V.bl true) (nodup_map (fun _ _ e => Sum.inr.inj e) nd) hz)
    · refine ⟨D, _, rfl, upd_same, _, rfl, a, _, rfl, .inl ((Same.put hD).seq hS), rfl, ?_⟩
      have e : (List.map (fun x => ((Sum.inr x : Key), V.bl true)) (xs.take (xs.map V.str).length)).length = (xs.map V.str).length := by simp
      rw [e, decide_eq_true rfl]
      exact k _ (Same.put hD)
theorem scO : FnScope ["thing", "key", "images", "image"] ["thing"] (defScope sOne) := ⟨rfl, rfl, rfl, by decide +kernel, rfl, by decide +kernel, by decide +kernel⟩
theorem ok_one {f fU : Addr} {fd fdU : FuncData} (F : Fun K "is_one_to_one" "is_one_to_one" sOne f fd) (FU : Fun K "are_unlike" "are_unlike" sUnlike fU fdU) (bU : L2.Binds K fdU ["some"] []) (mU : mg "are_unlike" = some (.ref fU)) (T : Blt mg) : FnOk P w K mg base CX0 2 f fd ["thing"] spOne := by
  have GU : FnOk P w K mg base CX0 1 fU fdU ["some"] (spUnlike K) := ok_unlike FU T
  refine F.ok scO (fun vs H Q E h => ?_) (fun cdv A outer s H vs Q E hr h => ?_)
  · obtain ⟨a, xs, rfl, _⟩ := h
    rfl
  · obtain ⟨d, m, rfl, hd, hl, nd, k⟩ := h
    refine ⟨_, pss_cons (ps_if (PW.pt (pw_or (pt_not (pt_val (pe_callB call_isi (by rfl) T.isinstance (by decide +kernel) (pa_cons (pv 0) (pa_cons (pe_bltn (v := .ty "dict") (by rfl) T.dict (by decide +kernel) rfl) pa_nil)))))
        (pw_or1 (pt_not (pt_val (pe_callB (cr_all rfl) (by rfl) T.all (by decide +kernel) (pa_cons (pe_lock (pe_lc (own := [("key", 1)]) (g := gName 1) (tt := tYes) (te := tCB (rIsi K) (tCons (tVar 1) (tCons (tC (.ty "str")) tNil))) rfl scO.nd (pi_keys (pv 0)) (blkOk_by (own := [("key", 1)]) (N := ["thing", "key", "images", "image"]) (sc := defScope sOne) (by decide +kernel))
          (fun _ _ _ _ _ => pg_name (i := 1) scO.nd rfl (Or.inl rfl)) (fun _ _ _ _ _ => pts_nil) (fun _ _ _ _ _ => pe_callB call_isi (by rfl) T.isinstance (by decide +kernel) (pa_cons (pv 1) (pa_cons (pe_bltn (v := .ty "str") (by rfl) T.str (by decide +kernel) rfl) pa_nil))))) pa_nil)))))))
        (pss_one (ps_ret pe_bl)) pss_nil)
      (pss_cons (ps_set (i := 2) scO.nd rfl (Or.inl rfl) (pe_listVals rfl (pv 0) (by rfl) T.list (by decide +kernel)))
      (pss_one (ps_ret (pe_and (pe_callB (cr_all rfl) (by rfl) T.all (by decide +kernel) (pa_cons (pe_lc (own := [("image", 3)]) (g := gName 3) (tt := tYes) (te := tCB (rIsi K) (tCons (tVar 3) (tCons (tC (.ty "str")) tNil))) rfl scO.nd (pi_list (pv 2)) (blkOk_by (own := [("image", 3)]) (N := ["thing", "key", "images", "image"]) (sc := defScope sOne) (by decide +kernel))
          (fun _ _ _ _ _ => pg_name (i := 3) scO.nd rfl (Or.inl rfl)) (fun _ _ _ _ _ => pts_nil) (fun _ _ _ _ _ => pe_callB call_isi (by rfl) T.isinstance (by decide +kernel) (pa_cons (pv 3) (pa_cons (pe_bltn (v := .ty "str") (by rfl) T.str (by decide +kernel) rfl) pa_nil)))) pa_nil))
        (pe_one (pe_call GU hr (by rfl) mU FU.kp bU .nil pass0 (pa_cons (pv 2) pa_nil))))))), ?_⟩
    refine ⟨_, rfl, _, _, _, _, true, rfl, .ty _, .base (.dK hd), kit_ty (by decide +kernel), _, rfl, iteF ?_⟩
    refine ⟨d, _, hd, trivial, fun od => ?_⟩
    refine ⟨_, rfl, d, od, rfl, .inl ⟨dS m, upd_same, fun D hD => ?_⟩⟩
    have hDd : D ≠ d := fun z => by rw [z, upd_same] at hD; cases hD
    have hD' : H D = none := by rw [upd_ne hDd] at hD; exact hD
    refine lcM (walk_keys (d := d) (o := od) (kvs := dS m)) ((m.map fun _ => true).map V.bl) (by simp [dS_length]) (by rw [dS_length]; omega) (fun acc => by rw [upd_ne (Ne.symm hDd), upd_same]) (fun i x y acc H' hy hY => ?_) ?_
    · obtain ⟨rfl, kk, v, e, rfl⟩ := hY
      unfold dS at e
      rw [List.getElem?_map] at e
      rw [List.getElem?_map, List.getElem?_map] at hy
      cases q : m[i]? with
      | none => rw [q] at e; cases e
      | some pr =>
        rw [q] at e hy
        cases e
        cases hy
        exact ⟨rfl, fun R hR => ⟨rfl, _, rfl, _, _, _, _, true, rfl, .ty _, .base (.str _), kit_ty (by decide +kernel), hR⟩⟩
    · refine ⟨by rw [upd_ne (Ne.symm hDd), upd_same], ?_⟩
      rw [lock_back hd hDd]
      have al : (m.map fun _ => true).all id = true := by simp
      refine ⟨D, _, rfl, SqL.of upd_same, _, rfl, ?_⟩
      rw [al]
      refine iteF ?_
      refine ⟨_, rfl, d, dS m, rfl, by rw [upd_ne (Ne.symm hDd)]; exact hd, fun p hp => ?_⟩
      have s1 : Same H (upd (upd H D (.lst ((m.map fun _ => true).map V.bl))) p (.lst ((dS m).map (·.2)))) := Same.new (Same.put hD') hp
      have ev : (dS m).map (·.2) = (m.map (·.2)).map V.str := by unfold dS; rw [List.map_map, List.map_map]; rfl
      rw [ev] at s1 ⊢
      refine ⟨_, rfl, p, rfl, ⟨_, SqL.of upd_same⟩, fun D2 hD2 => ?_⟩
      have hpD : p ≠ D2 := fun z => by rw [← z, upd_same] at hD2; cases hD2
      refine lcM (walk_list (K := K) (a := p) (xs := (m.map (·.2)).map V.str)) ((m.map fun _ => true).map V.bl) (by simp) (by simp; omega) (fun acc => SqL.of (by rw [upd_ne hpD, upd_same])) (fun i x y acc H' hy hY => ?_) ?_
      · obtain ⟨rfl, hx⟩ := hY
        obtain ⟨z, hz, rfl⟩ := getS hx
        rw [List.getElem?_map] at hz
        rw [List.getElem?_map, List.getElem?_map] at hy
        cases q : m[i]? with
        | none => rw [q] at hz; cases hz
        | some pr =>
          rw [q] at hy
          cases hy
          exact ⟨rfl, fun R hR => ⟨rfl, _, rfl, _, _, _, _, true, rfl, .ty _, .base (.str _), kit_ty (by decide +kernel), hR⟩⟩
      · refine ⟨D2, _, rfl, SqL.of upd_same, _, rfl, ?_⟩
        rw [al]
        refine iteT ?_
        exact ⟨_, rfl, p, m.map (·.2), rfl, SqL.of (by rw [upd_ne hpD, upd_same]), by simpa using hl, nd, fun H' sm => k H' (L2.Same.trans (Same.new s1 hD2) sm)⟩
end
end WW
namespace WW
open PySem PySem.Spec PyProof.Rows L2
/-- the tuples at ts hold the pairs ps -/
def Prs (H : Hp) (ts : List Addr) (ps : List (V × V)) : Prop := Paired (fun (t : Addr) (p : V × V) => H t = some (.tup [p.1, p.2])) ts ps
theorem Prs.same {H H' : Hp} (s : Same H H') {ts : List Addr} {ps : List (V × V)} (h : Prs H ts ps) : Prs H' ts ps := by
  unfold Prs at h ⊢
  induction h with
  | nil => exact .nil
  | cons a _ ih => exact .cons (s _ _ a) ih
theorem Prs.imp {H H' : Hp} {ts : List Addr} {ps : List (V × V)} (s : ∀ b xs, H b = some (.tup xs) → H' b = some (.tup xs)) (h : Prs H ts ps) : Prs H' ts ps := by
  unfold Prs at h ⊢
  induction h with
  | nil => exact .nil
  | cons a _ ih => exact .cons (s _ _ a) ih
theorem Prs.impOn {H H' : Hp} {ts : List Addr} {ps : List (V × V)} (h : Prs H ts ps) (s : ∀ b ∈ ts, ∀ xs, H b = some (.tup xs) → H' b = some (.tup xs)) : Prs H' ts ps := by
  unfold Prs at h ⊢
  induction h with
  | nil => exact .nil
  | cons a _ ih => exact .cons (s _ List.mem_cons_self _ a) (ih fun b hb => s b (List.mem_cons_of_mem _ hb))
theorem Prs.snoc {H : Hp} {ts : List Addr} {ps : List (V × V)} (h : Prs H ts ps) {t : Addr} {p : V × V} (ht : H t = some (.tup [p.1, p.2])) : Prs H (ts ++ [t]) (ps ++ [p]) := by
  unfold Prs at h ⊢
  induction h with
  | nil => exact .cons ht .nil
  | cons a _ ih => exact .cons a ih
theorem Prs.length {H : Hp} {ts : List Addr} {ps : List (V × V)} (h : Prs H ts ps) : ts.length = ps.length := Paired.length h
/-- a comprehension of pairs -/
theorem lcP {J : It} {n : Nat} {G : Hp → Prop} {Y : Nat → Hp → V → Hp → Prop} (w : Walk J n G Y) {g : TG} {te : TE} {vs : List Nat} {σ : L2.St} {H1 : Hp} {D : Addr} {Qd : Hp → Prop} (ps : List (V × V)) (hn : ps.length = n) (hz : n < 1000) (hD : H1 D = none)
    (hG : ∀ H, Same H1 H → G H)
    (hs : ∀ i x p H H', ps[i]? = some p → Same H1 H → Y i H x H' → H' = H ∧ ∀ R : V → Hp → Prop, (∀ t, H t = none → R (.ref t) (upd H t (.tup [p.1, p.2]))) → g x (wipe σ vs) H fun σ2 H2 => wipe σ2 vs = wipe σ vs ∧ te σ2 H2 R)
    (hd : ∀ H ts, Same H1 H → H D = some (.lst (ts.map V.ref)) → Prs H ts ps → (∀ t ∈ ts, H1 t = none) → Qd H) :
    ∃ W : Nat → Nat → Hp → Prop, (∃ m, W 0 m (upd H1 D (.lst []))) ∧ ∀ i m H, W i m H →
      (J.stop i H ∧ Qd H) ∨ (J.go i H ∧ ∃ Nx : Hp → Prop, (∀ H', Nx H' → ∃ m', m' < m ∧ W (i + 1) m' H') ∧ ∀ x H', J.yld i H x H' → g x (wipe σ vs) H' fun σ2 H2 => wipe σ2 vs = wipe σ vs ∧ tYes σ2 H2 fun b H3 =>
        if b = true then te σ2 H3 fun y H4 => ∃ acc, H4 D = some (.lst acc) ∧ acc.length < sizeLine ∧ Nx (upd H4 D (.lst (acc ++ [y]))) else Nx H3) := by
  refine lc_it w (fun i H => ∃ ts, Same H1 H ∧ H D = some (.lst (ts.map V.ref)) ∧ Prs H ts (ps.take i) ∧ ∀ t ∈ ts, H1 t = none) ⟨[], Same.put hD, upd_same, by simp; exact .nil, fun t ht => by simp at ht⟩ (fun i H hi ⟨_, s, _⟩ => hG H s) ?_ ?_
  · rintro i x H H' hi ⟨ts, s, eD, pr, nw⟩ hY
    have hi' : i < ps.length := by omega
    have hp : ps[i]? = some ps[i] := by simp [hi']
    obtain ⟨rfl, k⟩ := hs i x ps[i] H H' hp s hY
    have := k (fun y H4 => ∃ acc, H4 D = some (.lst acc) ∧ acc.length < sizeLine ∧ ∃ ts, Same H1 (upd H4 D (.lst (acc ++ [y]))) ∧ (upd H4 D (.lst (acc ++ [y]))) D = some (.lst (ts.map V.ref)) ∧ Prs (upd H4 D (.lst (acc ++ [y]))) ts (ps.take (i + 1)) ∧ ∀ t ∈ ts, H1 t = none) (fun t ht => ?_)
    · unfold tYes
      simpa using this
    · have htD : D ≠ t := ne_of_none eD ht
      have lt : ts.length = i := by rw [pr.length, List.length_take]; omega
      refine ⟨_, by rw [upd_ne htD]; exact eD, small1000 (by rw [List.length_map]; omega), ts ++ [t], ?_, by rw [upd_same]; simp, ?_, fun u hu => ?_⟩
      · intro b o e
        have e1 := s b o e
        rw [upd_ne (ne_of_none e hD), upd_ne (ne_of_none e1 ht)]
        exact e1
      · rw [take_succ' hp]
        have offD : ∀ b xs, H' b = some (.tup xs) → b ≠ D := fun b xs e z => by rw [z, eD] at e; cases e
        have p1 : Prs (upd (upd H' t (.tup [ps[i].1, ps[i].2])) D (.lst (ts.map V.ref ++ [.ref t]))) ts (ps.take i) := by
          exact pr.imp fun b xs e => by rw [upd_ne (offD _ _ e), upd_ne (ne_of_none e ht)]; exact e
        exact p1.snoc (by rw [upd_ne (Ne.symm htD), upd_same])
      · rcases List.mem_append.mp hu with hu | hu
        · exact nw u hu
        · rw [List.mem_singleton.mp hu]
          exact s.free ht
  · rintro H ⟨ts, s, eD, pr, nw⟩
    rw [List.take_of_length_le (by omega)] at pr
    exact hd H ts s eD pr nw
/-! ### what a Matching is -/
def Gd (m : SM) : Prop := (m.map (·.1)).Nodup ∧ (m.map (·.2)).Nodup ∧ m.length < 64
def pairsOf (m : SM) : SM := (sortS (m.map (·.1))).map fun k => (k, (m.lookup k).getD k)
def vv (l : SM) : List (V × V) := l.map fun p => (V.str p.1, V.str p.2)
def flds (d1 d2 l : Addr) : List (Str × V) := [("net_images", .ref d1), ("id_images", .ref d2), ("pairs", .ref l)]
theorem ne1 : (("id_images" : Str) == "net_images") = false := by decide +kernel
theorem ne2 : (("pairs" : Str) == "net_images") = false := by decide +kernel
theorem ne3 : (("pairs" : Str) == "id_images") = false := by decide +kernel
theorem flds_n (d1 d2 l : Addr) : (flds d1 d2 l).lookup ("net_images" : Str) = some (.ref d1) := by simp [flds, List.lookup_cons]
theorem flds_i (d1 d2 l : Addr) : (flds d1 d2 l).lookup ("id_images" : Str) = some (.ref d2) := by
  unfold flds
  rw [List.lookup_cons, ne1, List.lookup_cons, BEq.rfl]
theorem flds_p (d1 d2 l : Addr) : (flds d1 d2 l).lookup ("pairs" : Str) = some (.ref l) := by
  unfold flds
  rw [List.lookup_cons, ne2, List.lookup_cons, ne3, List.lookup_cons, BEq.rfl]
theorem flds_no (d1 d2 l : Addr) {m : Str} (h1 : (m == ("net_images" : Str)) = false) (h2 : (m == ("id_images" : Str)) = false) (h3 : (m == ("pairs" : Str)) = false) : (flds d1 d2 l).lookup m = none := by
  unfold flds
  rw [List.lookup_cons, h1, List.lookup_cons, h2, List.lookup_cons, h3]
  rfl
theorem flds_put (d1 d2 l : Addr) : putF "pairs" (.ref l) (putF "id_images" (.ref d2) (putF "net_images" (.ref d1) [])) = flds d1 d2 l := by
  have e1 : ¬ (("net_images" : Str) = "id_images") := by decide +kernel
  have e2 : ¬ (("net_images" : Str) = "pairs") := by decide +kernel
  have e3 : ¬ (("id_images" : Str) = "pairs") := by decide +kernel
  simp [putF, e1, e2, e3, flds]
structure MatchAt (C : Addr) (H : Hp) (p : Addr) (m1 m2 : SM) : Prop where
  ex : ∃ (dx d1 d2 l : Addr) (ts : List Addr), H p = some (.ins C dx (flds d1 d2 l)) ∧ H d1 = some (.dK (dS m1)) ∧ H d2 = some (.dK (dS m2)) ∧ H l = some (.lst (ts.map V.ref)) ∧ Prs H ts (vv (pairsOf m1))
  g1 : Gd m1
  g2 : Gd m2
theorem MatchAt.same {C : Addr} {H H' : Hp} {p : Addr} {m1 m2 : SM} (M : MatchAt C H p m1 m2) (s : Same H H') : MatchAt C H' p m1 m2 := by
  obtain ⟨⟨dx, d1, d2, l, ts, h1, h2, h3, h4, h5⟩, g1, g2⟩ := M
  exact ⟨⟨dx, d1, d2, l, ts, s _ _ h1, s _ _ h2, s _ _ h3, s _ _ h4, h5.same s⟩, g1, g2⟩
structure MTxt (K : PySem.W.Frag) (mg : Str → Option Value) (C : Addr) : Prop where
  cl : Cls K C
  nN : NoAttr K C "net_images"
  nI : NoAttr K C "id_images"
  nP : NoAttr K C "pairs"
  mgC : mg "Matching" = some (.ref C)
  ins : C8.InsC K C
  kD : PySem.W.kitOne K (.type "dict") (.ref C) = some false
abbrev sInit : Stmt := inClass (top 10) 0
def spInit (C : Addr) : Sp := fun vs H Q _ => ∃ (p dx d1 d2 : Addr) (m1 m2 : SM), vs = [.ref p, .ref d1, .ref d2] ∧ H p = some (.ins C dx []) ∧ H d1 = some (.dK (dS m1)) ∧ H d2 = some (.dK (dS m2)) ∧ Gd m1 ∧ Gd m2 ∧
  ∀ H', (∀ b o, H b = some o → b ≠ p → H' b = some o) → (∀ H2, (∀ c o, H' c = some o → (H c = none ∨ c = p) → H2 c = some o) → MatchAt C H2 p m1 m2) → Q .non H'
section
variable {P : Program} {w : World} {K : PySem.W.Frag} {mg : Str → Option Value} {base : Heap}
theorem scI : FnScope ["self", "nets", "ids", "net"] ["self", "nets", "ids"] (defScope sInit) := ⟨rfl, rfl, rfl, by decide +kernel, rfl, by decide +kernel, by decide +kernel⟩
theorem lookup_of_mem {m : SM} {k : Str} (h : k ∈ m.map (·.1)) : ∃ v, m.lookup k = some v := by
  induction m with
  | nil => simp at h
  | cons p r ih =>
    rw [List.lookup_cons]
    by_cases e : k = p.1
    · exact ⟨p.2, by simp [e]⟩
    · have : (k == p.1) = false := by simpa using e
      rw [this]
      exact ih (by
        rcases List.mem_cons.mp h with h | h
        · exact absurd h e
        · exact h)
theorem ok_init {f C fO fI : Addr} {fd fdO fdI : FuncData} (F : Fun K "__init__" "Matching.__init__" sInit f fd) (T : MTxt K mg C) (B : Blt mg) (GO : FnOk P w K mg base CX0 2 fO fdO ["thing"] spOne) (bO : L2.Binds K fdO ["thing"] []) (mO : mg "is_one_to_one" = some (.ref fO)) (kO : PySem.W.keepIn K (.ref fO) = true)
    (GI : FnOk P w K mg base CX0 1 fI fdI ["texts"] spInOrderD) (bI : L2.Binds K fdI ["texts"] []) (mI : mg "in_order" = some (.ref fI)) (kI : PySem.W.keepIn K (.ref fI) = true) : FnOk P w K mg base CX0 3 f fd ["self", "nets", "ids"] (spInit C) := by
  refine F.ok scI (fun vs H Q E h => ?_) (fun cdv A outer s H vs Q E hr h => ?_)
  · obtain ⟨p, dx, d1, d2, m1, m2, rfl, _⟩ := h
    rfl
  · obtain ⟨p, dx, d1, d2, m1, m2, rfl, hp, h1, h2, g1, g2, k⟩ := h
    have hu := hu_of hr
    have hr1 : Room 1 _ := hr.mono (by decide)
    refine ⟨_, pss_cons (ps_if (pt_not (pt_val (pe_call GO hr (by rfl) mO kO bO .nil pass0 (pa_cons (pv 1) pa_nil)))) (pss_one ps_never) pss_nil)
      (pss_cons (ps_if (pt_not (pt_val (pe_call GO hr (by rfl) mO kO bO .nil pass0 (pa_cons (pv 2) pa_nil)))) (pss_one ps_never) pss_nil)
      (pss_cons (ps_fld (pv 0) (pe_callTy call_dictD (by rfl) B.dict (by decide +kernel) (pa_cons (pv 1) pa_nil)) rfl)
      (pss_cons (ps_fld (pv 0) (pe_callTy call_dictD (by rfl) B.dict (by decide +kernel) (pa_cons (pv 2) pa_nil)) rfl)
      (pss_one (ps_fld (pv 0) (pe_lc (own := [("net", 3)]) (g := gName 3) (tt := tYes) rfl scI.nd (pi_list (pe_call GI hr1 (by rfl) mI kI bI .nil pass0 (pa_cons (pv 1) pa_nil))) (blkOk_by (own := [("net", 3)]) (N := ["self", "nets", "ids", "net"]) (sc := defScope sInit) (by decide +kernel))
        (fun _ _ _ _ _ => pg_name (i := 3) scI.nd rfl (Or.inl rfl)) (fun _ _ _ _ _ => pts_nil) (fun _ _ _ _ _ => pe_tup (pa_cons (pv 3) (pa_cons (pe_dget hu (pv 1) (pv 3) (fun _ _ => rfl)) pa_nil)))) rfl))))), ?_⟩
    -- both maps are one-to-one
    refine ⟨_, rfl, d1, m1, rfl, h1, g1.2.2, g1.2.1, fun H1 s1 => ⟨_, rfl, iteF ?_⟩⟩
    refine ⟨_, rfl, d2, m2, rfl, s1 _ _ h2, g2.2.2, g2.2.1, fun H2 s2 => ⟨_, rfl, iteF ?_⟩⟩
    have s02 : Same H H2 := s1.trans s2
    -- self.net_images = dict(nets)
    refine ⟨_, rfl, d1, dS m1, rfl, .inl (s02 _ _ h1), fun n1 hn1 => ?_⟩
    have hp2 := s02 _ _ hp
    refine ⟨_, rfl, p, C, dx, [], rfl, by rw [upd_ne (ne_of_none hp2 hn1)]; exact hp2, T.cl, T.nN, by show 0 < 1000; decide, ?_⟩
    have hd2p : d2 ≠ p := ne_of h2 hp (by intro z; cases z)
    have hd1p : d1 ≠ p := ne_of h1 hp (by intro z; cases z)
    have n1p : n1 ≠ p := fun z => by rw [z, hp2] at hn1; cases hn1
    refine ⟨_, rfl, d2, dS m2, rfl, .inl (by rw [upd_ne hd2p, upd_ne (ne_of_none (s02 _ _ h2) hn1)]; exact s02 _ _ h2), fun n2 hn2 => ?_⟩
    have n2p : p ≠ n2 := fun z => by rw [← z, upd_same] at hn2; cases hn2
    refine ⟨_, rfl, p, C, dx, _, rfl, by rw [upd_ne n2p, upd_same], T.cl, T.nI, by show 1 < 1000; decide, ?_⟩
    have hd1n1 : d1 ≠ n1 := ne_of_none (s02 _ _ h1) hn1
    have hn2' : H2 n2 = none := by
      by_cases z : n2 = n1
      · rw [z, upd_ne n1p, upd_same] at hn2
        cases hn2
      · rw [upd_ne (Ne.symm n2p), upd_ne z] at hn2
        exact hn2
    have hd1n2 : d1 ≠ n2 := ne_of_none (s02 _ _ h1) hn2'
    have hn21 : n1 ≠ n2 := fun z => by rw [← z, upd_ne n1p, upd_same] at hn2; cases hn2
    refine ⟨_, rfl, d1, m1, rfl, by rw [upd_ne hd1p, upd_ne hd1n2, upd_ne hd1p, upd_ne hd1n1]; exact s02 _ _ h1, g1.2.2, fun q H5 s5 hq5 hq => ?_⟩
    have e1 : H5 n1 = some (.dK (dS m1)) := s5 _ _ (by rw [upd_ne n1p, upd_ne hn21, upd_ne n1p, upd_same])
    have e2 : H5 n2 = some (.dK (dS m2)) := s5 _ _ (by rw [upd_ne (Ne.symm n2p), upd_same])
    have e3 : H5 p = some (.ins C dx (putF "id_images" (.ref n2) (putF "net_images" (.ref n1) []))) := s5 _ _ upd_same
    have e4 : H5 d1 = some (.dK (dS m1)) := s5 _ _ (by rw [upd_ne hd1p, upd_ne hd1n2, upd_ne hd1p, upd_ne hd1n1]; exact s02 _ _ h1)
    have kp : ∀ b o, H b = some o → b ≠ p → H5 b = some o := fun b o e hb => s5 _ _ (by
      have e' := s02 _ _ e
      rw [upd_ne hb, upd_ne (ne_of_none e' hn2'), upd_ne hb, upd_ne (ne_of_none e' hn1)]
      exact e')
    refine ⟨q, rfl, ⟨_, SqL.of hq⟩, fun D hD => ?_⟩
    refine lcP (walk_list (K := K) (a := q) (xs := (sortS (m1.map (·.1))).map V.str)) (vv (pairsOf m1)) (by simp [vv, pairsOf]) (by simp [sortS_length]; have := g1.2.2; omega) hD (fun H6 s6 => SqL.of (s6 _ _ hq)) (fun i x pr H6 H7 hpr s6 hY => ?_) (fun H6 ts s6 hD6 hts nts => ?_)
    · obtain ⟨rfl, hx⟩ := hY
      obtain ⟨z, hz, rfl⟩ := getS hx
      obtain ⟨v, hv⟩ : ∃ v, m1.lookup z = some v := lookup_of_mem ((sortS_perm _).mem_iff.mp (List.mem_of_getElem? hz))
      have hpr' : pr = (V.str z, V.str v) := by
        unfold vv pairsOf at hpr
        rw [List.getElem?_map, List.getElem?_map, hz] at hpr
        have := (Option.some.inj hpr).symm
        rw [this]
        show (V.str z, V.str ((m1.lookup z).getD z)) = _
        rw [hv]
        rfl
      subst hpr'
      refine ⟨rfl, fun R hR => ⟨rfl, _, rfl, _, rfl, _, rfl, d1, .str v, rfl, ?_, by show 2 ≤ sizeLine; decide, fun t ht => hR t ht⟩⟩
      have := DGet.k (k := (Sum.inr z : Key)) (s6 _ _ e4)
      rw [valV_dS, hv] at this
      exact this
    · refine ⟨_, rfl, p, C, dx, _, rfl, s6 _ _ e3, T.cl, T.nP, by rw [show (putF "id_images" (V.ref n2) (putF "net_images" (V.ref n1) [])).length = 2 from by simp [putF, show ¬ (("net_images" : Str) = "id_images") by decide +kernel]]; decide, ?_⟩
      have hpn : ∀ {b : Addr} {o : HO}, H6 b = some o → (∀ fs, o ≠ .ins C dx fs) → b ≠ p := fun {b o} e hne z => by
        rw [z, s6 _ _ e3] at e
        exact hne _ (Option.some.inj e).symm
      have new : ∀ {c : Addr}, H5 c = none → c ≠ p → H c = none := fun {c} e hc => by
        cases q : H c with
        | none => rfl
        | some o => rw [kp c o q hc] at e; cases e
      have q0 : H n1 = none := s02.free hn1
      have q1 : H n2 = none := s02.free hn2'
      have q2 : H D = none := new hD (hpn hD6 (by intro fs z; cases z))
      refine k _ (fun b o e hb => by rw [upd_ne hb]; exact s6 _ _ (kp b o e hb)) fun G hG => ⟨⟨dx, n1, n2, D, ts, hG _ _ (by rw [upd_same, flds_put]) (.inr rfl), hG _ _ ?_ (.inl q0), hG _ _ ?_ (.inl q1), hG _ _ ?_ (.inl q2), ?_⟩, g1, g2⟩
      · rw [upd_ne (hpn (s6 _ _ e1) (by intro fs z; cases z))]; exact s6 _ _ e1
      · rw [upd_ne (hpn (s6 _ _ e2) (by intro fs z; cases z))]; exact s6 _ _ e2
      · rw [upd_ne (hpn hD6 (by intro fs z; cases z))]; exact hD6
      · have tn : ∀ t ∈ ts, ∀ xs, H6 t = some (.tup xs) → G t = some (.tup xs) := fun t ht xs e => hG _ _ (by rw [upd_ne (hpn e (by intro fs z; cases z))]; exact e) (.inl (new (nts t ht) (hpn e (by intro fs z; cases z))))
        exact hts.impOn tn
end
end WW
namespace WW
open PySem PySem.Spec PyProof.Rows L2
/-! ### maps as lists of pairs -/
def keys (m : SM) : List Str := m.map (·.1)
def vals (m : SM) : List Str := m.map (·.2)
def img (n : SM) (v : Str) : Str := (n.lookup v).getD v
def comp (m n : SM) : SM := m.map fun p => (p.1, img n p.2)
def inv (m : SM) : SM := m.map fun p => (p.2, p.1)
theorem mem_of_lookup {m : SM} {k v : Str} (h : m.lookup k = some v) : (k, v) ∈ m := by
  induction m with
  | nil => simp at h
  | cons p r ih =>
    rw [List.lookup_cons] at h
    by_cases e : k = p.1
    · have : (k == p.1) = true := by simp [e]
      rw [this] at h
      have : v = p.2 := (Option.some.inj h).symm
      rw [e, this]
      exact List.mem_cons_self
    · have : (k == p.1) = false := by simpa using e
      rw [this] at h
      exact List.mem_cons_of_mem _ (ih h)
theorem lookup_of {m : SM} (nd : (keys m).Nodup) {k v : Str} (h : (k, v) ∈ m) : m.lookup k = some v := by
  induction m with
  | nil => simp at h
  | cons p r ih =>
    have nd' := List.nodup_cons.mp nd
    rw [List.lookup_cons]
    rcases List.mem_cons.mp h with e | h'
    · rw [← e]; simp
    · have : (k == p.1) = false := by
        simp only [beq_eq_false_iff_ne]
        intro e
        exact nd'.1 (List.mem_map.mpr ⟨(k, v), h', e⟩)
      rw [this]
      exact ih nd'.2 h'
theorem keys_comp (m n : SM) : keys (comp m n) = keys m := by unfold keys comp; rw [List.map_map]; rfl
theorem vals_comp (m n : SM) : vals (comp m n) = (vals m).map (img n) := by unfold vals comp; rw [List.map_map, List.map_map]; rfl
theorem keys_inv (m : SM) : keys (inv m) = vals m := by unfold keys inv vals; rw [List.map_map]; rfl
theorem vals_inv (m : SM) : vals (inv m) = keys m := by unfold keys inv vals; rw [List.map_map]; rfl
theorem inv_inv (m : SM) : inv (inv m) = m := by unfold inv; rw [List.map_map]; exact List.map_id m
theorem img_of {n : SM} (nd : (keys n).Nodup) {v x : Str} (h : (v, x) ∈ n) : img n v = x := by unfold img; rw [lookup_of nd h]; rfl
theorem img_mem {n : SM} {v : Str} (h : v ∈ keys n) : (v, img n v) ∈ n := by
  obtain ⟨x, hx⟩ := lookup_of_mem h
  unfold img
  rw [hx]
  exact mem_of_lookup hx
theorem lookup_img {n : SM} {v : Str} (h : v ∈ keys n) : n.lookup v = some (img n v) := by
  obtain ⟨x, hx⟩ := lookup_of_mem h
  unfold img
  rw [hx]
  rfl
theorem val_inj {n : SM} (nd : (vals n).Nodup) {a b x : Str} (h1 : (a, x) ∈ n) (h2 : (b, x) ∈ n) : a = b := by
  induction n with
  | nil => simp at h1
  | cons p r ih =>
    have nd' := List.nodup_cons.mp nd
    rcases List.mem_cons.mp h1 with e1 | h1
    · rcases List.mem_cons.mp h2 with e2 | h2
      · rw [← e1] at e2
        exact (Prod.mk.inj e2).1.symm
      · exact absurd (List.mem_map.mpr ⟨(b, x), h2, by rw [← e1]⟩) nd'.1
    · rcases List.mem_cons.mp h2 with e2 | h2
      · exact absurd (List.mem_map.mpr ⟨(a, x), h1, by rw [← e2]⟩) nd'.1
      · exact ih nd'.2 h1 h2
theorem nodup_map_on {α β : Type} {f : α → β} : ∀ {l : List α}, (∀ a ∈ l, ∀ b ∈ l, f a = f b → a = b) → l.Nodup → (l.map f).Nodup
  | [], _, _ => List.nodup_nil
  | x :: l, h, nd => by
    have nd' := List.nodup_cons.mp nd
    rw [List.map_cons]
    refine List.nodup_cons.mpr ⟨fun hm => ?_, nodup_map_on (fun a ha b hb => h a (List.mem_cons_of_mem _ ha) b (List.mem_cons_of_mem _ hb)) nd'.2⟩
    obtain ⟨y, hy, e⟩ := List.mem_map.mp hm
    rw [h x List.mem_cons_self y (List.mem_cons_of_mem _ hy) e.symm] at nd'
    exact nd'.1 hy
theorem Gd.comp {m n : SM} (g : Gd m) (h : Gd n) (s : ∀ v ∈ vals m, v ∈ keys n) : Gd (comp m n) := by
  refine ⟨?_, ?_, ?_⟩
  · show (keys (WW.comp m n)).Nodup
    rw [keys_comp]
    exact g.1
  · show (vals (WW.comp m n)).Nodup
    rw [vals_comp]
    refine nodup_map_on (fun a ha b hb e => ?_) g.2.1
    have h1 := img_mem (s a ha)
    have h2 := img_mem (s b hb)
    rw [e] at h1
    exact val_inj h.2.1 h1 h2
  · unfold WW.comp
    rw [List.length_map]
    exact g.2.2
theorem Gd.inv {m : SM} (g : Gd m) : Gd (inv m) := ⟨by show (keys (WW.inv m)).Nodup; rw [keys_inv]; exact g.2.1, by show (vals (WW.inv m)).Nodup; rw [vals_inv]; exact g.1, by unfold WW.inv; rw [List.length_map]; exact g.2.2⟩
theorem dEq_iff {m n : SM} : dEq m n = true ↔ m.length = n.length ∧ ∀ p ∈ m, n.lookup p.1 = some p.2 := by
  unfold dEq
  simp
theorem dEq_refl {m : SM} (g : Gd m) : dEq m m = true := dEq_iff.mpr ⟨rfl, fun p hp => lookup_of g.1 hp⟩
/-- the law's own: dicts with the same pairs -/
theorem comp_inv_id {m : SM} (g : Gd m) : ∀ p ∈ comp m (inv m), p.1 = p.2 := by
  intro p hp
  obtain ⟨q, hq, rfl⟩ := List.mem_map.mp hp
  show q.1 = img (inv m) q.2
  exact (img_of (n := inv m) g.inv.1 (List.mem_map.mpr ⟨q, hq, rfl⟩)).symm
theorem comp_id {m n : SM} (g : Gd n) (hk : keys m = keys n) (hi : ∀ p ∈ m, p.1 = p.2) : comp m n = n := by
  have e : m = (keys n).map fun k => (k, k) := by
    rw [← hk]
    unfold keys
    rw [List.map_map]
    conv => lhs; rw [← List.map_id m]
    refine List.map_congr_left fun p hp => ?_
    have := hi p hp
    exact Prod.ext rfl this.symm
  rw [e]
  unfold comp keys
  rw [List.map_map, List.map_map]
  conv => rhs; rw [← List.map_id n]
  refine List.map_congr_left fun p hp => ?_
  show (p.1, img n p.1) = p
  rw [img_of g.1 (show (p.1, p.2) ∈ n from hp)]
end WW
namespace WW
open PySem PySem.Spec PyProof.Rows L2
abbrev sCall : Stmt := inClass (top 10) 2
abbrev sIdOf : Stmt := inClass (top 10) 3
abbrev sNetMap : Stmt := inClass (top 10) 4
abbrev sIdMap : Stmt := inClass (top 10) 5
abbrev sMul : Stmt := inClass (top 10) 6
abbrev sInv : Stmt := inClass (top 10) 7
abbrev sIsId : Stmt := inClass (top 10) 9
abbrev sEq : Stmt := inClass (top 10) 10
abbrev sLen : Stmt := inClass (top 10) 11
abbrev sIter : Stmt := inClass (top 10) 12
abbrev sFits : Stmt := top 11
theorem rd_frz {H : Hp} {d e D : Addr} {od : Obj} {u v x : HO} (hd : H d = some u) (he : H e = some v) (hD : H D = none) : Rd (upd (upd H d (.frz od u)) D x) e v := by
  have e1 : e ≠ D := ne_of_none he hD
  by_cases z : e = d
  · subst z
    rw [hd] at he
    cases he
    exact .inr ⟨od, by rw [upd_ne e1, upd_same]⟩
  · exact .inl (by rw [upd_ne e1, upd_ne z]; exact he)
theorem dget_R {H : Hp} {d : Addr} {m : SM} (hd : Rd H d (.dK (dS m))) {k v : Str} (h : m.lookup k = some v) : DGet H d (.str k) (some (.str v)) := .inl ⟨dS m, Sum.inr k, hd, rfl, by rw [valV_dS, h]; rfl⟩
/-- a Matching whose dicts may be locked -/
def MatchRd (C : Addr) (H : Hp) (p : Addr) (m1 m2 : SM) : Prop := ∃ (dx d1 d2 l : Addr), H p = some (.ins C dx (flds d1 d2 l)) ∧ Rd H d1 (.dK (dS m1)) ∧ Rd H d2 (.dK (dS m2))
theorem MatchAt.rd {C : Addr} {H : Hp} {p : Addr} {m1 m2 : SM} (M : MatchAt C H p m1 m2) : MatchRd C H p m1 m2 := by
  obtain ⟨dx, d1, d2, l, ts, h1, h2, h3, h4, h5⟩ := M.ex
  exact ⟨dx, d1, d2, l, h1, .inl h2, .inl h3⟩
theorem MatchAt.frz {C : Addr} {H : Hp} {p a D : Addr} {m1 m2 m : SM} {od : Obj} {x : HO} (M : MatchAt C H p m1 m2) (ha : H a = some (.dK (dS m))) (hD : H D = none) : MatchRd C (upd (upd H a (.frz od (.dK (dS m)))) D x) p m1 m2 := by
  obtain ⟨dx, d1, d2, l, ts, h1, h2, h3, h4, h5⟩ := M.ex
  refine ⟨dx, d1, d2, l, ?_, rd_frz ha h2 hD, rd_frz ha h3 hD⟩
  rw [upd_ne (ne_of_none h1 hD), upd_ne (ne_of h1 ha (by intro z; cases z))]
  exact h1
def spCallM (C : Addr) : Sp := fun vs H Q _ => ∃ (p : Addr) (m1 m2 : SM) (k v : Str), vs = [.ref p, .str k] ∧ MatchRd C H p m1 m2 ∧ m1.lookup k = some v ∧ Q (.str v) H
def spIdOf (C : Addr) : Sp := fun vs H Q _ => ∃ (p : Addr) (m1 m2 : SM) (k v : Str), vs = [.ref p, .str k] ∧ MatchRd C H p m1 m2 ∧ m2.lookup k = some v ∧ Q (.str v) H
def spNetMap (C : Addr) : Sp := fun vs H Q _ => ∃ (p : Addr) (m1 m2 : SM), vs = [.ref p] ∧ MatchAt C H p m1 m2 ∧ ∀ d, H d = none → Q (.ref d) (upd H d (.dK (dS m1)))
def spIdMap (C : Addr) : Sp := fun vs H Q _ => ∃ (p : Addr) (m1 m2 : SM), vs = [.ref p] ∧ MatchAt C H p m1 m2 ∧ ∀ d, H d = none → Q (.ref d) (upd H d (.dK (dS m2)))
def spLenM (C : Addr) : Sp := fun vs H Q _ => ∃ (p : Addr) (m1 m2 : SM), vs = [.ref p] ∧ MatchAt C H p m1 m2 ∧ Q (.int m1.length) H
theorem dget_S {H : Hp} {d : Addr} {m : SM} (hd : H d = some (.dK (dS m))) {k v : Str} (h : m.lookup k = some v) : DGet H d (.str k) (some (.str v)) := by
  have := DGet.k (k := (Sum.inr k : Key)) hd
  rw [valV_dS, h] at this
  exact this
theorem pairsOf_length (m : SM) : (vv (pairsOf m)).length = m.length := by simp [vv, pairsOf, sortS_length]
section
variable {P : Program} {w : World} {K : PySem.W.Frag} {mg : Str → Option Value} {base : Heap} {f C : Addr} {fd : FuncData}
theorem scC : FnScope ["self", "net"] ["self", "net"] (defScope sCall) := ⟨rfl, rfl, rfl, by decide +kernel, rfl, by decide +kernel, by decide +kernel⟩
theorem ok_callM (F : Fun K "__call__" "Matching.__call__" sCall f fd) (T : MTxt K mg C) (B : Blt mg) : FnOk P w K mg base CX0 1 f fd ["self", "net"] (spCallM C) := by
  refine F.ok scC (fun vs H Q E h => ?_) (fun cdv A outer s H vs Q E hr h => ?_)
  · obtain ⟨p, m1, m2, k, v, rfl, _⟩ := h
    rfl
  · obtain ⟨p, m1, m2, k, v, rfl, M, hv, q⟩ := h
    have hu := hu_of hr
    obtain ⟨dx, d1, d2, l, h1, h2, h3⟩ := M
    refine ⟨_, pss_cons (ps_if (PW.pt (pw_or (pt_not (pt_val (pe_callB call_isi (by rfl) B.isinstance (by decide +kernel) (pa_cons (pv 1) (pa_cons (pe_bltn (v := .ty "str") (by rfl) B.str (by decide +kernel) rfl) pa_nil)))))
        (pw_or1 (pt_cmp (pc_dnotin hu (pv 1) (pe_fld (pv 0) rfl)))))) (pss_one ps_never) pss_nil)
      (pss_one (ps_ret (pe_dget hu (pe_fld (pv 0) rfl) (pv 1) (fun _ _ => rfl)))), ?_⟩
    refine ⟨_, rfl, _, _, _, _, true, rfl, .ty _, .base (.str _), kit_ty (by decide +kernel), _, rfl, iteF ?_⟩
    refine ⟨_, rfl, _, rfl, p, C, dx, _, _, rfl, h1, T.cl, T.nN, flds_n _ _ _, d1, _, rfl, dget_R h2 hv, _, rfl, iteF ?_⟩
    exact ⟨_, rfl, p, C, dx, _, _, rfl, h1, T.cl, T.nN, flds_n _ _ _, _, rfl, d1, _, rfl, dget_R h2 hv, q⟩
theorem scD : FnScope ["self", "name"] ["self", "name"] (defScope sIdOf) := ⟨rfl, rfl, rfl, by decide +kernel, rfl, by decide +kernel, by decide +kernel⟩
theorem ok_idOf (F : Fun K "id_of" "Matching.id_of" sIdOf f fd) (T : MTxt K mg C) (B : Blt mg) : FnOk P w K mg base CX0 1 f fd ["self", "name"] (spIdOf C) := by
  refine F.ok scD (fun vs H Q E h => ?_) (fun cdv A outer s H vs Q E hr h => ?_)
  · obtain ⟨p, m1, m2, k, v, rfl, _⟩ := h
    rfl
  · obtain ⟨p, m1, m2, k, v, rfl, M, hv, q⟩ := h
    have hu := hu_of hr
    obtain ⟨dx, d1, d2, l, h1, h2, h3⟩ := M
    refine ⟨_, pss_cons (ps_if (PW.pt (pw_or (pt_not (pt_val (pe_callB call_isi (by rfl) B.isinstance (by decide +kernel) (pa_cons (pv 1) (pa_cons (pe_bltn (v := .ty "str") (by rfl) B.str (by decide +kernel) rfl) pa_nil)))))
        (pw_or1 (pt_cmp (pc_dnotin hu (pv 1) (pe_fld (pv 0) rfl)))))) (pss_one ps_never) pss_nil)
      (pss_one (ps_ret (pe_dget hu (pe_fld (pv 0) rfl) (pv 1) (fun _ _ => rfl)))), ?_⟩
    refine ⟨_, rfl, _, _, _, _, true, rfl, .ty _, .base (.str _), kit_ty (by decide +kernel), _, rfl, iteF ?_⟩
    refine ⟨_, rfl, _, rfl, p, C, dx, _, _, rfl, h1, T.cl, T.nI, flds_i _ _ _, d2, _, rfl, dget_R h3 hv, _, rfl, iteF ?_⟩
    exact ⟨_, rfl, p, C, dx, _, _, rfl, h1, T.cl, T.nI, flds_i _ _ _, _, rfl, d2, _, rfl, dget_R h3 hv, q⟩
theorem scNM : FnScope ["self"] ["self"] (defScope sNetMap) := ⟨rfl, rfl, rfl, by decide +kernel, rfl, by decide +kernel, by decide +kernel⟩
theorem ok_netMap (F : Fun K "net_map" "Matching.net_map" sNetMap f fd) (T : MTxt K mg C) (B : Blt mg) : FnOk P w K mg base CX0 1 f fd ["self"] (spNetMap C) := by
  refine F.ok scNM (fun vs H Q E h => ?_) (fun cdv A outer s H vs Q E hr h => ?_)
  · obtain ⟨p, m1, m2, rfl, _⟩ := h
    rfl
  · obtain ⟨p, m1, m2, rfl, M, q⟩ := h
    obtain ⟨⟨dx, d1, d2, l, ts, h1, h2, h3, h4, h5⟩, g1, g2⟩ := M
    refine ⟨_, pss_one (ps_ret (pe_callTy call_dictD (by rfl) B.dict (by decide +kernel) (pa_cons (pe_fld (pv 0) rfl) pa_nil))), ?_⟩
    exact ⟨_, rfl, p, C, dx, _, _, rfl, h1, T.cl, T.nN, flds_n _ _ _, d1, _, rfl, .inl h2, q⟩
theorem scIM : FnScope ["self"] ["self"] (defScope sIdMap) := ⟨rfl, rfl, rfl, by decide +kernel, rfl, by decide +kernel, by decide +kernel⟩
theorem ok_idMap (F : Fun K "id_map" "Matching.id_map" sIdMap f fd) (T : MTxt K mg C) (B : Blt mg) : FnOk P w K mg base CX0 1 f fd ["self"] (spIdMap C) := by
  refine F.ok scIM (fun vs H Q E h => ?_) (fun cdv A outer s H vs Q E hr h => ?_)
  · obtain ⟨p, m1, m2, rfl, _⟩ := h
    rfl
  · obtain ⟨p, m1, m2, rfl, M, q⟩ := h
    obtain ⟨⟨dx, d1, d2, l, ts, h1, h2, h3, h4, h5⟩, g1, g2⟩ := M
    refine ⟨_, pss_one (ps_ret (pe_callTy call_dictD (by rfl) B.dict (by decide +kernel) (pa_cons (pe_fld (pv 0) rfl) pa_nil))), ?_⟩
    exact ⟨_, rfl, p, C, dx, _, _, rfl, h1, T.cl, T.nI, flds_i _ _ _, d2, _, rfl, .inl h3, q⟩
theorem scLn : FnScope ["self"] ["self"] (defScope sLen) := ⟨rfl, rfl, rfl, by decide +kernel, rfl, by decide +kernel, by decide +kernel⟩
theorem ok_lenM (F : Fun K "__len__" "Matching.__len__" sLen f fd) (T : MTxt K mg C) (B : Blt mg) : FnOk P w K mg base CX0 1 f fd ["self"] (spLenM C) := by
  refine F.ok scLn (fun vs H Q E h => ?_) (fun cdv A outer s H vs Q E hr h => ?_)
  · obtain ⟨p, m1, m2, rfl, _⟩ := h
    rfl
  · obtain ⟨p, m1, m2, rfl, M, q⟩ := h
    obtain ⟨⟨dx, d1, d2, l, ts, h1, h2, h3, h4, h5⟩, g1, g2⟩ := M
    refine ⟨_, pss_one (ps_ret (pe_callB call_len_seq (by rfl) B.len PySem.boot_len (pa_cons (pe_fld (pv 0) rfl) pa_nil))), ?_⟩
    refine ⟨_, rfl, p, C, dx, _, _, rfl, h1, T.cl, T.nP, flds_p _ _ _, l, _, rfl, .inl (SqL.of h4), ?_⟩
    have e : ((ts.map V.ref).length : Int) = (m1.length : Int) := by rw [List.length_map, h5.length, pairsOf_length]
    show Q (.int ((ts.map V.ref).length : Int)) H
    rw [e]
    exact q
def spFits (C : Addr) : Sp := fun vs H Q _ => ∃ (p q : Addr) (m1 m2 n1 n2 : SM), vs = [.ref p, .ref q] ∧ MatchAt C H p m1 m2 ∧ MatchAt C H q n1 n2 ∧ (vals m1).Perm (keys n1) ∧ (vals m2).Perm (keys n2) ∧ ∀ H', Same H H' → Q (.bl true) H'
theorem scF : FnScope ["one", "other", "nets"] ["one", "other"] (defScope sFits) := ⟨rfl, rfl, rfl, by decide +kernel, rfl, by decide +kernel, by decide +kernel⟩
end
end WW
namespace WW
open PySem PySem.Spec PyProof.Rows L2
section
variable {P : Program} {w : World} {K : PySem.W.Frag} {mg : Str → Option Value} {base : Heap} {f C : Addr} {fd : FuncData}
theorem vals_dS (m : SM) : (dS m).map (·.2) = (vals m).map V.str := by unfold dS vals; rw [List.map_map, List.map_map]; rfl
theorem vals_len (m : SM) : (vals m).length = m.length := by unfold vals; exact List.length_map _
theorem ok_fits {fI : Addr} {fdI : FuncData} (F : Fun K "fits_behind" "fits_behind" sFits f fd) (T : MTxt K mg C) (B : Blt mg) (GL : FnOk P w K mg base CX0 1 fI fdI ["texts"] (spInOrderL K)) (GI : FnOk P w K mg base CX0 1 fI fdI ["texts"] spInOrderD) (bI : L2.Binds K fdI ["texts"] []) (mI : mg "in_order" = some (.ref fI)) (kI : PySem.W.keepIn K (.ref fI) = true) :
    FnOk P w K mg base CX0 2 f fd ["one", "other"] (spFits C) := by
  refine F.ok scF (fun vs H Q E h => ?_) (fun cdv A outer s H vs Q E hr h => ?_)
  · obtain ⟨p, q, m1, m2, n1, n2, rfl, _⟩ := h
    rfl
  · obtain ⟨p, q, m1, m2, n1, n2, rfl, M, N, p1, p2, k⟩ := h
    have hu : _ < _ := hr.units0
    obtain ⟨⟨dx, d1, d2, l, ts, h1, h2, h3, h4, h5⟩, g1, g2⟩ := M
    obtain ⟨⟨dy, e1, e2, l', ts', i1, i2, i3, i4, i5⟩, g3, g4⟩ := N
    refine ⟨_, pss_cons (ps_set (i := 2) scF.nd rfl (Or.inl rfl) (pe_cmpR (op_eqSL hu) (pe_call GL hr (by rfl) mI kI bI .nil pass0 (pa_cons (pe_listVals rfl (pe_fld (pv 0) rfl) (by rfl) B.list (by decide +kernel)) pa_nil)) (pe_call GI hr (by rfl) mI kI bI .nil pass0 (pa_cons (pe_fld (pv 1) rfl) pa_nil)) (nomark _)))
      (pss_one (ps_ret (pe_and (pv 2) (pe_one (pe_cmpR (op_eqSL hu) (pe_call GL hr (by rfl) mI kI bI .nil pass0 (pa_cons (pe_listVals rfl (pe_fld (pv 0) rfl) (by rfl) B.list (by decide +kernel)) pa_nil)) (pe_call GI hr (by rfl) mI kI bI .nil pass0 (pa_cons (pe_fld (pv 1) rfl) pa_nil)) (nomark _)))))), ?_⟩
    refine ⟨_, rfl, p, C, dx, _, _, rfl, h1, T.cl, T.nN, flds_n _ _ _, d1, _, rfl, h2, fun a ha => ?_⟩
    rw [vals_dS]
    refine ⟨a, vals m1, rfl, SqL.of upd_same, by rw [vals_len]; exact g1.2.2, fun b H1 s1 hb1 hb => ?_⟩
    have s01 : Same H H1 := (Same.put ha).trans s1
    refine ⟨_, rfl, q, C, dy, _, _, rfl, s01 _ _ i1, T.cl, T.nN, flds_n _ _ _, e1, n1, rfl, s01 _ _ i2, g3.2.2, fun c H2 s2 hc2 hc => ?_⟩
    refine ⟨b, c, _, _, rfl, rfl, SqL.of (s2 _ _ hb), SqL.of hc, ?_⟩
    have q1 : sortS (vals m1) = sortS (n1.map (·.1)) := sortS_congr p1
    rw [q1, decide_eq_true rfl]
    refine ⟨_, rfl, _, rfl, iteT ?_⟩
    have s02 : Same H H2 := s01.trans s2
    refine ⟨_, rfl, p, C, dx, _, _, rfl, s02 _ _ h1, T.cl, T.nI, flds_i _ _ _, d2, _, rfl, s02 _ _ h3, fun a' ha' => ?_⟩
    rw [vals_dS]
    refine ⟨a', vals m2, rfl, SqL.of upd_same, by rw [vals_len]; exact g2.2.2, fun b' H3 s3 hb3 hb' => ?_⟩
    have s03 : Same H H3 := s02.trans ((Same.put ha').trans s3)
    refine ⟨_, rfl, q, C, dy, _, _, rfl, s03 _ _ i1, T.cl, T.nI, flds_i _ _ _, e2, n2, rfl, s03 _ _ i3, g4.2.2, fun c' H4 s4 hc4 hc' => ?_⟩
    refine ⟨b', c', _, _, rfl, rfl, SqL.of (s4 _ _ hb'), SqL.of hc', ?_⟩
    have q2 : sortS (vals m2) = sortS (n2.map (·.1)) := sortS_congr p2
    rw [q2, decide_eq_true rfl]
    exact k _ (s03.trans s4)
def spMul (C : Addr) : Sp := fun vs H Q _ => ∃ (p q : Addr) (m1 m2 n1 n2 : SM), vs = [.ref p, .ref q] ∧ MatchAt C H p m1 m2 ∧ MatchAt C H q n1 n2 ∧ (vals m1).Perm (keys n1) ∧ (vals m2).Perm (keys n2) ∧
  ∀ r H', Same H H' → H r = none → MatchAt C H' r (comp m1 n1) (comp m2 n2) → Q (.ref r) H'
theorem scM : FnScope ["self", "other", "nets", "net", "name"] ["self", "other"] (defScope sMul) := ⟨rfl, rfl, rfl, by decide +kernel, rfl, by decide +kernel, by decide +kernel⟩
/-- {k: other[self[k]] for k in self}, self at d1, other at e1: a new dict at D -/
theorem getD {m : SM} {i : Nat} {k : Key} {v : V} (e : (dS m)[i]? = some (k, v)) : ∃ a b, m[i]? = some (a, b) ∧ k = Sum.inr a ∧ v = V.str b := by
  unfold dS at e
  rw [List.getElem?_map] at e
  cases q : m[i]? with
  | none => rw [q] at e; cases e
  | some pr => rw [q] at e; cases e; exact ⟨pr.1, pr.2, rfl, rfl, rfl⟩
theorem nodup_inr {l : List Str} (nd : l.Nodup) : (l.map fun x => (Sum.inr x : Key)).Nodup := nodup_map (fun _ _ e => Sum.inr.inj e) nd
theorem dS_comp_take (m n : SM) (i : Nat) : dS ((comp m n).take i) = (m.take i).map fun p => ((Sum.inr p.1 : Key), V.str (img n p.2)) := by
  unfold dS comp
  rw [← List.map_take, List.map_map]
  rfl
abbrev tMulV (K : PySem.W.Frag) (x : Str) (i : Nat) : TE := tDGet (tFld K (tVar 1) x) (tDGet (tFld K (tVar 0) x) (tVar i))
theorem ok_mul {fN fF : Addr} {fdN fdF : FuncData} (F : Fun K "__mul__" "Matching.__mul__" sMul f fd) (T : MTxt K mg C) (B : Blt mg) (GF : FnOk P w K mg base CX0 2 fF fdF ["one", "other"] (spFits C)) (bF : L2.Binds K fdF ["one", "other"] []) (mF : mg "fits_behind" = some (.ref fF)) (kF : PySem.W.keepIn K (.ref fF) = true)
    (GN : FnOk P w K mg base CX0 3 fN fdN ["self", "nets", "ids"] (spInit C)) (bN : L2.Binds K fdN ["self", "nets", "ids"] []) (MK : Mk K C fN) : FnOk P w K mg base CX0 5 f fd ["self", "other"] (spMul C) := by
  refine F.ok scM (fun vs H Q E h => ?_) (fun cdv A outer s H vs Q E hr h => ?_)
  · obtain ⟨p, q, m1, m2, n1, n2, rfl, _⟩ := h
    rfl
  · obtain ⟨p, q, m1, m2, n1, n2, rfl, M, N, p1, p2, k⟩ := h
    have hu := hu_of hr
    have hr2 : Room 2 _ := hr.mono (by decide)
    refine ⟨_, pss_cons (ps_if (PW.pt (pw_or (pt_not (pt_val (pe_callB (C8.call_isC T.ins) (by rfl) B.isinstance (by decide +kernel) (pa_cons (pv 1) (pa_cons (pe_glob (v := .ref C) rfl T.mgC rfl) pa_nil)))))
        (pw_or1 (pt_not (pt_val (pe_call GF hr2 (by rfl) mF kF bF .nil pass0 (pa_cons (pv 0) (pa_cons (pv 1) pa_nil)))))))) (pss_one ps_never) pss_nil)
      (pss_cons (ps_lock (ps_setDc (i := 2) (own := [("net", 3)]) (g := gName 3) (tt := tYes) (tk := tVar 3) (tv := tMulV K "net_images" 3) rfl scM.nd rfl rfl (swD_true rfl rfl rfl (by decide +kernel)) (pi_keys (pe_fld (pv 0) rfl)) (blkOk_by (own := [("net", 3)]) (N := ["self", "other", "nets", "net", "name"]) (sc := defScope sMul) (by decide +kernel))
        (fun _ _ _ _ _ => pg_name (i := 3) scM.nd rfl (Or.inl rfl)) (fun _ _ _ _ _ => pts_nil) (fun _ _ _ _ _ => pv 3) (fun _ _ _ _ _ => pe_dget hu (pe_fld (pv 1) rfl) (pe_dget hu (pe_fld (pv 0) rfl) (pv 3) (fun _ _ => rfl)) (fun _ _ => rfl))))
      (pss_one (ps_ret (pe_make MK GN hr (by rfl) T.mgC bN .nil pass0 (pa_cons (pv 2) (pa_cons (pe_lock (pe_dc (own := [("name", 4)]) (g := gName 4) (tt := tYes) (tk := tVar 4) (tv := tMulV K "id_images" 4) rfl scM.nd (pi_keys (pe_fld (pv 0) rfl)) (blkOk_by (own := [("name", 4)]) (N := ["self", "other", "nets", "net", "name"]) (sc := defScope sMul) (by decide +kernel))
        (fun _ _ _ _ _ => pg_name (i := 4) scM.nd rfl (Or.inl rfl)) (fun _ _ _ _ _ => pts_nil) (fun _ _ _ _ _ => pv 4) (fun _ _ _ _ _ => pe_dget hu (pe_fld (pv 1) rfl) (pe_dget hu (pe_fld (pv 0) rfl) (pv 4) (fun _ _ => rfl)) (fun _ _ => rfl)))) pa_nil)))))), ?_⟩
    have M0 := M
    have N0 := N
    obtain ⟨⟨dy, e1, e2, l', ts', i1, i2, i3, i4, i5⟩, g3, g4⟩ := N
    refine ⟨_, rfl, q, dy, _, rfl, i1, _, rfl, iteF ?_⟩
    refine ⟨_, rfl, _, rfl, p, q, m1, m2, n1, n2, rfl, M0, N0, p1, p2, fun H1 s1 => ⟨_, rfl, iteF ?_⟩⟩
    have sub1 : ∀ v ∈ vals m1, v ∈ keys n1 := fun v hv => p1.mem_iff.mp hv
    have sub2 : ∀ v ∈ vals m2, v ∈ keys n2 := fun v hv => p2.mem_iff.mp hv
    obtain ⟨⟨dx, d1, d2, l, ts, h1, h2, h3, h4, h5⟩, g1, g2⟩ := M
    -- nets = {..}
    refine ⟨d1, _, s1 _ _ h2, trivial, fun od => ?_⟩
    have pd : p ≠ d1 := ne_of h1 h2 (by intro z; cases z)
    have qd : q ≠ d1 := ne_of i1 h2 (by intro z; cases z)
    refine ⟨_, rfl, p, C, dx, _, _, rfl, by rw [upd_ne pd]; exact s1 _ _ h1, T.cl, T.nN, flds_n _ _ _, d1, od, rfl, .inl ⟨dS m1, upd_same, fun D hD => ?_⟩⟩
    have hDd : D ≠ d1 := fun z => by rw [z, upd_same] at hD; cases hD
    have hD' : H1 D = none := by rw [upd_ne hDd] at hD; exact hD
    have len1 : m1.length < 64 := g1.2.2
    have len2 : m2.length < 64 := g2.2.2
    refine dcA (walk_keys (d := d1) (o := od) (kvs := dS m1)) (fun i => dS ((comp m1 n1).take i)) (by simp [dS]) (fun i hi => small1000 (by rw [dS_length, List.length_take]; unfold comp; rw [List.length_map]; omega)) (fun acc => by rw [upd_ne (Ne.symm hDd), upd_same]) (fun i x H' hi hY => ?_) ?_
    · obtain ⟨rfl, kk, v, e, rfl⟩ := hY
      obtain ⟨a, b, hab, rfl, rfl⟩ := getD e
      have mem : (a, b) ∈ m1 := List.mem_of_getElem? hab
      have lk1 : m1.lookup a = some b := lookup_of g1.1 mem
      have lk2 : n1.lookup b = some (img n1 b) := lookup_img (sub1 b (List.mem_map.mpr ⟨(a, b), mem, rfl⟩))
      refine ⟨rfl, fun R hR => ⟨rfl, _, rfl, _, rfl, q, C, dy, flds e1 e2 l', _, rfl, ?_, T.cl, T.nN, flds_n _ _ _, _, rfl, p, C, dx, flds d1 d2 l, _, rfl, ?_, T.cl, T.nN, flds_n _ _ _, _, rfl, d1, _, rfl, dget_R (rd_frz (s1 _ _ h2) (s1 _ _ h2) hD') lk1, e1, _, rfl, dget_R (rd_frz (s1 _ _ h2) (s1 _ _ i2) hD') lk2, ?_⟩⟩
      · rw [upd_ne (ne_of_none (s1 _ _ i1) hD'), upd_ne qd]; exact s1 _ _ i1
      · rw [upd_ne (ne_of_none (s1 _ _ h1) hD'), upd_ne pd]; exact s1 _ _ h1
      · refine hR (Sum.inr a) (.str (img n1 b)) ?_
        rw [dS_comp_take, dS_comp_take]
        exact putK_map (fun p => (Sum.inr p.1 : Key)) (fun p => V.str (img n1 p.2)) (by have := nodup_inr g1.1; rw [List.map_map] at this; exact this) hab
    · refine ⟨by rw [upd_ne (Ne.symm hDd), upd_same], ?_⟩
      rw [lock_back (s1 _ _ h2) hDd]
      have ec : (comp m1 n1).take (dS m1).length = comp m1 n1 := List.take_of_length_le (by rw [dS_length]; unfold comp; rw [List.length_map]; exact Nat.le_refl _)
      rw [ec]
      generalize hH2 : upd H1 D (.dK (dS (comp m1 n1))) = H2
      have s12 : Same H1 H2 := by rw [← hH2]; exact Same.put hD'
      have s02 : Same H H2 := s1.trans s12
      have hD2 : H2 D = some (.dK (dS (comp m1 n1))) := by rw [← hH2]; exact upd_same
      -- the ids
      refine ⟨_, rfl, d2, _, s02 _ _ h3, trivial, fun od2 => ?_⟩
      have pd2 : p ≠ d2 := ne_of h1 h3 (by intro z; cases z)
      have qd2 : q ≠ d2 := ne_of i1 h3 (by intro z; cases z)
      refine ⟨_, rfl, p, C, dx, _, _, rfl, by rw [upd_ne pd2]; exact s02 _ _ h1, T.cl, T.nI, flds_i _ _ _, d2, od2, rfl, .inl ⟨dS m2, upd_same, fun D2 hD3 => ?_⟩⟩
      have hDd2 : D2 ≠ d2 := fun z => by rw [z, upd_same] at hD3; cases hD3
      have hD3' : H2 D2 = none := by rw [upd_ne hDd2] at hD3; exact hD3
      refine dcA (walk_keys (d := d2) (o := od2) (kvs := dS m2)) (fun i => dS ((comp m2 n2).take i)) (by simp [dS]) (fun i hi => small1000 (by rw [dS_length, List.length_take]; unfold comp; rw [List.length_map]; omega)) (fun acc => by rw [upd_ne (Ne.symm hDd2), upd_same]) (fun i x H' hi hY => ?_) ?_
      · obtain ⟨rfl, kk, v, e, rfl⟩ := hY
        obtain ⟨a, b, hab, rfl, rfl⟩ := getD e
        have mem : (a, b) ∈ m2 := List.mem_of_getElem? hab
        have lk1 : m2.lookup a = some b := lookup_of g2.1 mem
        have lk2 : n2.lookup b = some (img n2 b) := lookup_img (sub2 b (List.mem_map.mpr ⟨(a, b), mem, rfl⟩))
        refine ⟨rfl, fun R hR => ⟨rfl, _, rfl, _, rfl, q, C, dy, flds e1 e2 l', _, rfl, ?_, T.cl, T.nI, flds_i _ _ _, _, rfl, p, C, dx, flds d1 d2 l, _, rfl, ?_, T.cl, T.nI, flds_i _ _ _, _, rfl, d2, _, rfl, dget_R (rd_frz (s02 _ _ h3) (s02 _ _ h3) hD3') lk1, e2, _, rfl, dget_R (rd_frz (s02 _ _ h3) (s02 _ _ i3) hD3') lk2, ?_⟩⟩
        · rw [upd_ne (ne_of_none (s02 _ _ i1) hD3'), upd_ne qd2]; exact s02 _ _ i1
        · rw [upd_ne (ne_of_none (s02 _ _ h1) hD3'), upd_ne pd2]; exact s02 _ _ h1
        · refine hR (Sum.inr a) (.str (img n2 b)) ?_
          rw [dS_comp_take, dS_comp_take]
          exact putK_map (fun p => (Sum.inr p.1 : Key)) (fun p => V.str (img n2 p.2)) (by have := nodup_inr g2.1; rw [List.map_map] at this; exact this) hab
      · refine ⟨by rw [upd_ne (Ne.symm hDd2), upd_same], ?_⟩
        rw [lock_back (s02 _ _ h3) hDd2]
        have ec2 : (comp m2 n2).take (dS m2).length = comp m2 n2 := List.take_of_length_le (by rw [dS_length]; unfold comp; rw [List.length_map]; exact Nat.le_refl _)
        rw [ec2]
        generalize hH3 : upd H2 D2 (.dK (dS (comp m2 n2))) = H3
        have s23 : Same H2 H3 := by rw [← hH3]; exact Same.put hD3'
        have hD4 : H3 D2 = some (.dK (dS (comp m2 n2))) := by rw [← hH3]; exact upd_same
        -- Matching(nets, ..)
        intro r dr hr3 hdr hne
        have s34 : Same H3 (upd (upd H3 dr (.own r)) r (.ins C dr [])) := Same.new (Same.put hdr) (by rw [upd_ne (Ne.symm hne)]; exact hr3)
        refine ⟨r, dr, D, D2, comp m1 n1, comp m2 n2, rfl, upd_same, s34 _ _ (s23 _ _ hD2), s34 _ _ hD4, g1.comp g3 sub1, g2.comp g4 sub2, fun H' kp NA => ⟨rfl, ?_⟩⟩
        have s03 : Same H H3 := s02.trans s23
        refine k r H' (fun b o e => kp b o (s34 _ _ (s03 _ _ e)) (ne_of_none (s03 _ _ e) hr3)) (s03.free hr3) (NA H' fun _ _ e _ => e)
end
end WW
namespace WW
open PySem PySem.Spec PyProof.Rows L2
section
variable {P : Program} {w : World} {K : PySem.W.Frag} {mg : Str → Option Value} {base : Heap} {f C : Addr} {fd : FuncData}
def spInv (C : Addr) : Sp := fun vs H Q _ => ∃ (p : Addr) (m1 m2 : SM), vs = [.ref p] ∧ MatchAt C H p m1 m2 ∧ ∀ r H', Same H H' → H r = none → MatchAt C H' r (inv m1) (inv m2) → Q (.ref r) H'
theorem scV : FnScope ["self", "nets", "net", "name"] ["self"] (defScope sInv) := ⟨rfl, rfl, rfl, by decide +kernel, rfl, by decide +kernel, by decide +kernel⟩
theorem dS_inv_take (m : SM) (i : Nat) : dS ((inv m).take i) = (m.take i).map fun p => ((Sum.inr p.2 : Key), V.str p.1) := by
  unfold dS inv
  rw [← List.map_take, List.map_map]
  rfl
theorem inv_len (m : SM) : (inv m).length = m.length := List.length_map _
theorem ok_inv {fN : Addr} {fdN : FuncData} (F : Fun K "__invert__" "Matching.__invert__" sInv f fd) (T : MTxt K mg C) (B : Blt mg)
    (GN : FnOk P w K mg base CX0 3 fN fdN ["self", "nets", "ids"] (spInit C)) (bN : L2.Binds K fdN ["self", "nets", "ids"] []) (MK : Mk K C fN) : FnOk P w K mg base CX0 5 f fd ["self"] (spInv C) := by
  refine F.ok scV (fun vs H Q E h => ?_) (fun cdv A outer s H vs Q E hr h => ?_)
  · obtain ⟨p, m1, m2, rfl, _⟩ := h
    rfl
  · obtain ⟨p, m1, m2, rfl, M, k⟩ := h
    have hu := hu_of hr
    refine ⟨_, pss_cons (ps_lock (ps_setDc (i := 1) (own := [("net", 2)]) (g := gName 2) (tt := tYes) (tk := tDGet (tFld K (tVar 0) "net_images") (tVar 2)) (tv := tVar 2) rfl scV.nd rfl rfl (swD_true rfl rfl rfl (by decide +kernel)) (pi_keys (pe_fld (pv 0) rfl)) (blkOk_by (own := [("net", 2)]) (N := ["self", "nets", "net", "name"]) (sc := defScope sInv) (by decide +kernel))
        (fun _ _ _ _ _ => pg_name (i := 2) scV.nd rfl (Or.inl rfl)) (fun _ _ _ _ _ => pts_nil) (fun _ _ _ _ _ => pe_dget hu (pe_fld (pv 0) rfl) (pv 2) (fun _ _ => rfl)) (fun _ _ _ _ _ => pv 2)))
      (pss_one (ps_ret (pe_make MK GN hr (by rfl) T.mgC bN .nil pass0 (pa_cons (pv 1) (pa_cons (pe_lock (pe_dc (own := [("name", 3)]) (g := gName 3) (tt := tYes) (tk := tDGet (tFld K (tVar 0) "id_images") (tVar 3)) (tv := tVar 3) rfl scV.nd (pi_keys (pe_fld (pv 0) rfl)) (blkOk_by (own := [("name", 3)]) (N := ["self", "nets", "net", "name"]) (sc := defScope sInv) (by decide +kernel))
        (fun _ _ _ _ _ => pg_name (i := 3) scV.nd rfl (Or.inl rfl)) (fun _ _ _ _ _ => pts_nil) (fun _ _ _ _ _ => pe_dget hu (pe_fld (pv 0) rfl) (pv 3) (fun _ _ => rfl)) (fun _ _ _ _ _ => pv 3))) pa_nil))))), ?_⟩
    obtain ⟨⟨dx, d1, d2, l, ts, h1, h2, h3, h4, h5⟩, g1, g2⟩ := M
    refine ⟨d1, _, h2, trivial, fun od => ?_⟩
    have pd : p ≠ d1 := ne_of h1 h2 (by intro z; cases z)
    refine ⟨_, rfl, p, C, dx, _, _, rfl, by rw [upd_ne pd]; exact h1, T.cl, T.nN, flds_n _ _ _, d1, od, rfl, .inl ⟨dS m1, upd_same, fun D hD => ?_⟩⟩
    have hDd : D ≠ d1 := fun z => by rw [z, upd_same] at hD; cases hD
    have hD' : H D = none := by rw [upd_ne hDd] at hD; exact hD
    have len1 : m1.length < 64 := g1.2.2
    have len2 : m2.length < 64 := g2.2.2
    refine dcA (walk_keys (d := d1) (o := od) (kvs := dS m1)) (fun i => dS ((inv m1).take i)) (by simp [dS]) (fun i hi => small1000 (by rw [dS_length, List.length_take, inv_len]; omega)) (fun acc => by rw [upd_ne (Ne.symm hDd), upd_same]) (fun i x H' hi hY => ?_) ?_
    · obtain ⟨rfl, kk, v, e, rfl⟩ := hY
      obtain ⟨a, b, hab, rfl, rfl⟩ := getD e
      have mem : (a, b) ∈ m1 := List.mem_of_getElem? hab
      have lk1 : m1.lookup a = some b := lookup_of g1.1 mem
      refine ⟨rfl, fun R hR => ⟨rfl, _, rfl, p, C, dx, flds d1 d2 l, _, rfl, ?_, T.cl, T.nN, flds_n _ _ _, _, rfl, d1, _, rfl, dget_R (rd_frz h2 h2 hD') lk1, _, rfl, ?_⟩⟩
      · rw [upd_ne (ne_of_none h1 hD'), upd_ne pd]; exact h1
      · refine hR (Sum.inr b) (.str a) ?_
        rw [dS_inv_take, dS_inv_take]
        exact putK_map (fun p => (Sum.inr p.2 : Key)) (fun p => V.str p.1) (by have := nodup_inr g1.2.1; rw [List.map_map] at this; exact this) hab
    · refine ⟨by rw [upd_ne (Ne.symm hDd), upd_same], ?_⟩
      rw [lock_back h2 hDd]
      have ec : (inv m1).take (dS m1).length = inv m1 := List.take_of_length_le (by rw [dS_length, inv_len]; exact Nat.le_refl _)
      rw [ec]
      generalize hH2 : upd H D (.dK (dS (inv m1))) = H2
      have s02 : Same H H2 := by rw [← hH2]; exact Same.put hD'
      have hD2 : H2 D = some (.dK (dS (inv m1))) := by rw [← hH2]; exact upd_same
      refine ⟨_, rfl, d2, _, s02 _ _ h3, trivial, fun od2 => ?_⟩
      have pd2 : p ≠ d2 := ne_of h1 h3 (by intro z; cases z)
      refine ⟨_, rfl, p, C, dx, _, _, rfl, by rw [upd_ne pd2]; exact s02 _ _ h1, T.cl, T.nI, flds_i _ _ _, d2, od2, rfl, .inl ⟨dS m2, upd_same, fun D2 hD3 => ?_⟩⟩
      have hDd2 : D2 ≠ d2 := fun z => by rw [z, upd_same] at hD3; cases hD3
      have hD3' : H2 D2 = none := by rw [upd_ne hDd2] at hD3; exact hD3
      refine dcA (walk_keys (d := d2) (o := od2) (kvs := dS m2)) (fun i => dS ((inv m2).take i)) (by simp [dS]) (fun i hi => small1000 (by rw [dS_length, List.length_take, inv_len]; omega)) (fun acc => by rw [upd_ne (Ne.symm hDd2), upd_same]) (fun i x H' hi hY => ?_) ?_
      · obtain ⟨rfl, kk, v, e, rfl⟩ := hY
        obtain ⟨a, b, hab, rfl, rfl⟩ := getD e
        have mem : (a, b) ∈ m2 := List.mem_of_getElem? hab
        have lk1 : m2.lookup a = some b := lookup_of g2.1 mem
        refine ⟨rfl, fun R hR => ⟨rfl, _, rfl, p, C, dx, flds d1 d2 l, _, rfl, ?_, T.cl, T.nI, flds_i _ _ _, _, rfl, d2, _, rfl, dget_R (rd_frz (s02 _ _ h3) (s02 _ _ h3) hD3') lk1, _, rfl, ?_⟩⟩
        · rw [upd_ne (ne_of_none (s02 _ _ h1) hD3'), upd_ne pd2]; exact s02 _ _ h1
        · refine hR (Sum.inr b) (.str a) ?_
          rw [dS_inv_take, dS_inv_take]
          exact putK_map (fun p => (Sum.inr p.2 : Key)) (fun p => V.str p.1) (by have := nodup_inr g2.2.1; rw [List.map_map] at this; exact this) hab
      · refine ⟨by rw [upd_ne (Ne.symm hDd2), upd_same], ?_⟩
        rw [lock_back (s02 _ _ h3) hDd2]
        have ec2 : (inv m2).take (dS m2).length = inv m2 := List.take_of_length_le (by rw [dS_length, inv_len]; exact Nat.le_refl _)
        rw [ec2]
        generalize hH3 : upd H2 D2 (.dK (dS (inv m2))) = H3
        have s23 : Same H2 H3 := by rw [← hH3]; exact Same.put hD3'
        have hD4 : H3 D2 = some (.dK (dS (inv m2))) := by rw [← hH3]; exact upd_same
        intro r dr hr3 hdr hne
        have s34 : Same H3 (upd (upd H3 dr (.own r)) r (.ins C dr [])) := Same.new (Same.put hdr) (by rw [upd_ne (Ne.symm hne)]; exact hr3)
        refine ⟨r, dr, D, D2, inv m1, inv m2, rfl, upd_same, s34 _ _ (s23 _ _ hD2), s34 _ _ hD4, g1.inv, g2.inv, fun H' kp NA => ⟨rfl, ?_⟩⟩
        have s03 : Same H H3 := s02.trans s23
        exact k r H' (fun b o e => kp b o (s34 _ _ (s03 _ _ e)) (ne_of_none (s03 _ _ e) hr3)) (s03.free hr3) (NA H' fun _ _ e _ => e)
/-! ### ==, iter -/
def spEqM (C : Addr) : Sp := fun vs H Q _ => ∃ (p q : Addr) (m1 m2 n1 n2 : SM), vs = [.ref p, .ref q] ∧ MatchAt C H p m1 m2 ∧ MatchAt C H q n1 n2 ∧ Q (.bl (dEq m1 n1 && dEq m2 n2)) H
def spEqD (C : Addr) : Sp := fun vs H Q _ => ∃ (p d : Addr) (m1 m2 n : SM), vs = [.ref p, .ref d] ∧ MatchAt C H p m1 m2 ∧ H d = some (.dK (dS n)) ∧ Q (.bl false) H
theorem scE : FnScope ["self", "other"] ["self", "other"] (defScope sEq) := ⟨rfl, rfl, rfl, by decide +kernel, rfl, by decide +kernel, by decide +kernel⟩
theorem ok_eqM (F : Fun K "__eq__" "Matching.__eq__" sEq f fd) (T : MTxt K mg C) (B : Blt mg) : FnOk P w K mg base CX0 1 f fd ["self", "other"] (spEqM C) := by
  refine F.ok scE (fun vs H Q E h => ?_) (fun cdv A outer s H vs Q E hr h => ?_)
  · obtain ⟨p, q, m1, m2, n1, n2, rfl, _⟩ := h
    rfl
  · obtain ⟨p, q, m1, m2, n1, n2, rfl, M, N, k⟩ := h
    have hu : _ < _ := hr.units0
    obtain ⟨⟨dx, d1, d2, l, ts, h1, h2, h3, h4, h5⟩, g1, g2⟩ := M
    obtain ⟨⟨dy, e1, e2, l', ts', i1, i2, i3, i4, i5⟩, g3, g4⟩ := N
    refine ⟨_, pss_one (ps_ret (pe_and (pe_callB (C8.call_isC T.ins) (by rfl) B.isinstance (by decide +kernel) (pa_cons (pv 1) (pa_cons (pe_glob (v := .ref C) rfl T.mgC rfl) pa_nil))) (pe_and (pe_cmpR (op_eqDS hu) (pe_fld (pv 0) rfl) (pe_fld (pv 1) rfl) (nomark _)) (pe_one (pe_cmpR (op_eqDS hu) (pe_fld (pv 0) rfl) (pe_fld (pv 1) rfl) (nomark _)))))), ?_⟩
    refine ⟨_, rfl, q, dy, _, rfl, i1, _, rfl, iteT ?_⟩
    refine ⟨_, rfl, p, C, dx, _, _, rfl, h1, T.cl, T.nN, flds_n _ _ _, _, rfl, q, C, dy, _, _, rfl, i1, T.cl, T.nN, flds_n _ _ _, d1, e1, m1, n1, rfl, rfl, h2, i2, _, rfl, ?_⟩
    cases hb : dEq m1 n1 with
    | false =>
      rw [hb, Bool.false_and] at k
      exact iteF k
    | true =>
      rw [hb, Bool.true_and] at k
      exact iteT ⟨_, rfl, p, C, dx, _, _, rfl, h1, T.cl, T.nI, flds_i _ _ _, _, rfl, q, C, dy, _, _, rfl, i1, T.cl, T.nI, flds_i _ _ _, d2, e2, m2, n2, rfl, rfl, h3, i3, k⟩
theorem ok_eqD (F : Fun K "__eq__" "Matching.__eq__" sEq f fd) (T : MTxt K mg C) (B : Blt mg) : FnOk P w K mg base CX0 1 f fd ["self", "other"] (spEqD C) := by
  refine F.ok scE (fun vs H Q E h => ?_) (fun cdv A outer s H vs Q E hr h => ?_)
  · obtain ⟨p, q, m1, m2, n, rfl, _⟩ := h
    rfl
  · obtain ⟨p, d, m1, m2, n, rfl, M, hd, k⟩ := h
    have hu : _ < _ := hr.units0
    refine ⟨_, pss_one (ps_ret (pe_and (pe_callB call_isi (by rfl) B.isinstance (by decide +kernel) (pa_cons (pv 1) (pa_cons (pe_glob (v := .ref C) rfl T.mgC rfl) pa_nil))) (pe_and (pe_cmpR (op_eqDS hu) (pe_fld (pv 0) rfl) (pe_fld (pv 1) rfl) (nomark _)) (pe_one (pe_cmpR (op_eqDS hu) (pe_fld (pv 0) rfl) (pe_fld (pv 1) rfl) (nomark _)))))), ?_⟩
    exact ⟨_, rfl, _, _, _, _, false, rfl, .own C, .base (.dK hd), T.kD, _, rfl, iteF k⟩
def PiM (C : Addr) (H : Hp) (a l : Addr) : Prop := ∃ (dx d1 d2 : Addr) (xs : List V), H a = some (.ins C dx (flds d1 d2 l)) ∧ H l = some (.lst xs)
theorem scT : FnScope ["self"] ["self"] (defScope sIter) := ⟨rfl, rfl, rfl, by decide +kernel, rfl, by decide +kernel, by decide +kernel⟩
theorem iter_body (T : MTxt K mg C) (B : Blt mg) {g : Addr} (cdv : Value) (A : Around) (outer : List Env) (s : Shared) (H : Hp) (a l : Addr) (Q : VK) (hp : PiM C H a l) (hq : ∀ it, H it = none → s.heap.objs.size ≤ it → Q (.ref it) (upd H it (ItO l it 0))) :
    ∃ t, PSs (cxOf CX0 P w K mg base ["self"] "Matching.__iter__" (defScope sIter) g cdv A outer s H E0).nox (defBody sIter) t ∧ t { nx := fun _ H' => Q .non H', rt := Q } (start ["self"] [.ref a]) H := by
  obtain ⟨dx, d1, d2, xs, h1, h2⟩ := hp
  refine ⟨_, pss_one (ps_ret (pe_callB ItX.call_iterN (by rfl) B.iter (by decide +kernel) (pa_cons (pe_fld (pv 0) rfl) pa_nil))), ?_⟩
  exact ⟨_, rfl, a, C, dx, _, _, rfl, h1, T.cl, T.nP, flds_p _ _ _, l, xs, rfl, SqL.of h2, fun it hn hz => hq it hn hz⟩
end
end WW
namespace WW
open PySem PySem.Spec PyProof.Rows L2
def idB (m : SM) : Bool := m.all fun p => decide (p.2 = p.1)
def spIsId (C : Addr) : Sp := fun vs H Q _ => ∃ (p : Addr) (m1 m2 : SM), vs = [.ref p] ∧ MatchAt C H p m1 m2 ∧ ∀ H', Same H H' → Q (.bl (idB m1 && idB m2)) H'
section
variable {P : Program} {w : World} {K : PySem.W.Frag} {mg : Str → Option Value} {base : Heap} {f C : Addr} {fd : FuncData}
theorem scX : FnScope ["self", "nets", "ids", "net", "name"] ["self"] (defScope sIsId) := ⟨rfl, rfl, rfl, by decide +kernel, rfl, by decide +kernel, by decide +kernel⟩
theorem ok_isId (F : Fun K "is_identity" "Matching.is_identity" sIsId f fd) (T : MTxt K mg C) (B : Blt mg) : FnOk P w K mg base CX0 1 f fd ["self"] (spIsId C) := by
  refine F.ok scX (fun vs H Q E h => ?_) (fun cdv A outer s H vs Q E hr h => ?_)
  · obtain ⟨p, m1, m2, rfl, _⟩ := h
    rfl
  · obtain ⟨p, m1, m2, rfl, M, k⟩ := h
    have hu := hu_of hr
    obtain ⟨⟨dx, d1, d2, l, ts, h1, h2, h3, h4, h5⟩, g1, g2⟩ := M
    refine ⟨_, pss_cons (ps_asg (pe_tup (pa_cons (pe_fld (pv 0) rfl) (pa_cons (pe_fld (pv 0) rfl) pa_nil))) (pg_tup (by rfl) (pgs_cons (pg_name (i := 1) scX.nd rfl (Or.inr rfl)) (pgs_cons (pg_name (i := 2) scX.nd rfl (Or.inr rfl)) pgs_nil))))
      (pss_one (ps_ret (pe_and (pe_callB (cr_all rfl) (by rfl) B.all (by decide +kernel) (pa_cons (pe_lock (pe_lc (own := [("net", 3)]) (g := gName 3) (tt := tYes) rfl scX.nd (pi_keys (pv 1)) (blkOk_by (own := [("net", 3)]) (N := ["self", "nets", "ids", "net", "name"]) (sc := defScope sIsId) (by decide +kernel))
          (fun _ _ _ _ _ => pg_name (i := 3) scX.nd rfl (Or.inl rfl)) (fun _ _ _ _ _ => pts_nil) (fun _ _ _ _ _ => pe_cmpR op_eq (pe_dget hu (pv 1) (pv 3) (fun _ _ => rfl)) (pv 3) (nomark _)))) pa_nil))
        (pe_one (pe_callB (cr_all rfl) (by rfl) B.all (by decide +kernel) (pa_cons (pe_lock (pe_lc (own := [("name", 4)]) (g := gName 4) (tt := tYes) rfl scX.nd (pi_keys (pv 2)) (blkOk_by (own := [("name", 4)]) (N := ["self", "nets", "ids", "net", "name"]) (sc := defScope sIsId) (by decide +kernel))
          (fun _ _ _ _ _ => pg_name (i := 4) scX.nd rfl (Or.inl rfl)) (fun _ _ _ _ _ => pts_nil) (fun _ _ _ _ _ => pe_cmpR op_eq (pe_dget hu (pv 2) (pv 4) (fun _ _ => rfl)) (pv 4) (nomark _)))) pa_nil)))))), ?_⟩
    refine ⟨_, rfl, p, C, dx, _, _, rfl, h1, T.cl, T.nN, flds_n _ _ _, _, rfl, p, C, dx, _, _, rfl, h1, T.cl, T.nI, flds_i _ _ _, by show 2 ≤ sizeLine; decide, fun t ht => ?_⟩
    generalize hH1 : upd H t (.tup [V.ref d1, V.ref d2]) = H1
    have s1 : Same H H1 := by rw [← hH1]; exact Same.put ht
    have ht1 : H1 t = some (.tup [V.ref d1, V.ref d2]) := by rw [← hH1]; exact upd_same
    refine ⟨t, _, rfl, SqT.of ht1, rfl, _, _, rfl, _, _, rfl, rfl, ?_⟩
    refine ⟨d1, _, s1 _ _ h2, trivial, fun od => ?_⟩
    refine ⟨_, rfl, d1, od, rfl, .inl ⟨dS m1, upd_same, fun D hD => ?_⟩⟩
    have hDd : D ≠ d1 := fun z => by rw [z, upd_same] at hD; cases hD
    have hD' : H1 D = none := by rw [upd_ne hDd] at hD; exact hD
    have len1 : m1.length < 64 := g1.2.2
    have len2 : m2.length < 64 := g2.2.2
    refine lcM (walk_keys (d := d1) (o := od) (kvs := dS m1)) ((m1.map fun p => decide (p.2 = p.1)).map V.bl) (by simp [dS_length]) (by rw [dS_length]; omega) (fun acc => by rw [upd_ne (Ne.symm hDd), upd_same]) (fun i x y acc H' hy hY => ?_) ?_
    · obtain ⟨rfl, kk, v, e, rfl⟩ := hY
      obtain ⟨a, b, hab, rfl, rfl⟩ := getD e
      rw [List.getElem?_map, List.getElem?_map, hab] at hy
      cases hy
      have lk1 : m1.lookup a = some b := lookup_of g1.1 (List.mem_of_getElem? hab)
      refine ⟨rfl, fun R hR => ⟨rfl, _, rfl, _, rfl, d1, _, rfl, dget_R (rd_frz (s1 _ _ h2) (s1 _ _ h2) hD') lk1, _, rfl, rfl, ?_⟩⟩
      have : decide (V.str b = kV (Sum.inr a : Key)) = decide (b = a) := by rw [Bool.eq_iff_iff]; simp [kV]
      rw [this]
      exact hR
    · refine ⟨by rw [upd_ne (Ne.symm hDd), upd_same], ?_⟩
      rw [lock_back (s1 _ _ h2) hDd]
      refine ⟨D, _, rfl, SqL.of upd_same, _, rfl, ?_⟩
      have e1 : (m1.map fun p => decide (p.2 = p.1)).all id = idB m1 := by unfold idB; rw [List.all_map]; rfl
      rw [e1]
      generalize hH2 : upd H1 D (.lst ((m1.map fun p => decide (p.2 = p.1)).map V.bl)) = H2
      have s2 : Same H H2 := by rw [← hH2]; exact Same.new s1 hD'
      cases hb : idB m1 with
      | false =>
        refine iteF ?_
        have := k H2 s2
        rw [hb, Bool.false_and] at this
        exact this
      | true =>
        refine iteT ?_
        refine ⟨d2, _, s2 _ _ h3, trivial, fun od2 => ?_⟩
        refine ⟨_, rfl, d2, od2, rfl, .inl ⟨dS m2, upd_same, fun D2 hD2 => ?_⟩⟩
        have hDd2 : D2 ≠ d2 := fun z => by rw [z, upd_same] at hD2; cases hD2
        have hD2' : H2 D2 = none := by rw [upd_ne hDd2] at hD2; exact hD2
        refine lcM (walk_keys (d := d2) (o := od2) (kvs := dS m2)) ((m2.map fun p => decide (p.2 = p.1)).map V.bl) (by simp [dS_length]) (by rw [dS_length]; omega) (fun acc => by rw [upd_ne (Ne.symm hDd2), upd_same]) (fun i x y acc H' hy hY => ?_) ?_
        · obtain ⟨rfl, kk, v, e, rfl⟩ := hY
          obtain ⟨a, b, hab, rfl, rfl⟩ := getD e
          rw [List.getElem?_map, List.getElem?_map, hab] at hy
          cases hy
          have lk1 : m2.lookup a = some b := lookup_of g2.1 (List.mem_of_getElem? hab)
          refine ⟨rfl, fun R hR => ⟨rfl, _, rfl, _, rfl, d2, _, rfl, dget_R (rd_frz (s2 _ _ h3) (s2 _ _ h3) hD2') lk1, _, rfl, rfl, ?_⟩⟩
          have : decide (V.str b = kV (Sum.inr a : Key)) = decide (b = a) := by rw [Bool.eq_iff_iff]; simp [kV]
          rw [this]
          exact hR
        · refine ⟨by rw [upd_ne (Ne.symm hDd2), upd_same], ?_⟩
          rw [lock_back (s2 _ _ h3) hDd2]
          refine ⟨D2, _, rfl, SqL.of upd_same, ?_⟩
          have e2 : (m2.map fun p => decide (p.2 = p.1)).all id = idB m2 := by unfold idB; rw [List.all_map]; rfl
          rw [e2]
          have := k _ (Same.new (o := .lst ((m2.map fun p => decide (p.2 = p.1)).map V.bl)) s2 hD2')
          rw [hb, Bool.true_and] at this
          exact this
end
end WW
namespace WW
open PySem PySem.Spec PyProof.Rows L2
abbrev sStart : Stmt := top 13
abbrev sDraw : Stmt := top 14
abbrev sNames : Stmt := top 15
abbrev sMap : Stmt := top 16
abbrev sThen : Stmt := top 17
abbrev sBack : Stmt := top 18
abbrev sHolds : Stmt := top 19
abbrev sLaw : Stmt := top 20
/-- the draws' state at S, its numbers at L -/
structure StAt (H : Hp) (S L : Addr) : Prop where
  st : ∃ i r z : Int, H S = some (.lst [.ref L, .int i, .int r, .int z]) ∧ 0 ≤ i
  ls : ∃ zs : List Int, H L = some (.lst (zs.map V.int))
  ne : L ≠ S
/-- all but S is as it was -/
def SameBut (S : Addr) (H H' : Hp) : Prop := ∀ b o, H b = some o → b ≠ S → H' b = some o
theorem SameBut.trans {S : Addr} {H H1 H2 : Hp} (a : SameBut S H H1) (b : SameBut S H1 H2) : SameBut S H H2 := fun c o h n => b c o (a c o h n) n
theorem SameBut.of {S : Addr} {H H1 : Hp} (a : Same H H1) : SameBut S H H1 := fun c o h _ => a c o h
theorem StAt.same {H H' : Hp} {S L : Addr} (T : StAt H S L) (s : Same H H') : StAt H' S L := by
  obtain ⟨⟨i, r, z, h, hi⟩, ⟨zs, h2⟩, ne⟩ := T
  exact ⟨⟨i, r, z, s _ _ h, hi⟩, ⟨zs, s _ _ h2⟩, ne⟩
theorem StAt.set {H : Hp} {S L : Addr} (T : StAt H S L) {i r z : Int} (hi : 0 ≤ i) : StAt (upd H S (.lst [.ref L, .int i, .int r, .int z])) S L := by
  obtain ⟨_, ⟨zs, h2⟩, ne⟩ := T
  exact ⟨⟨i, r, z, upd_same, hi⟩, ⟨zs, by rw [upd_ne ne]; exact h2⟩, ne⟩
theorem SameBut.set {H : Hp} {S : Addr} {o : HO} : SameBut S H (upd H S o) := fun b u e n => by rw [upd_ne n]; exact e
def spStart (K : PySem.W.Frag) : Sp := fun vs H Q _ => ∃ (a : Addr) (zs : List Int), vs = [.ref a] ∧ SqL K H a (zs.map V.int) ∧ ∀ S L H', Same H H' → H S = none → StAt H' S L → Q (.ref S) H'
def spDraw : Sp := fun vs H Q _ => ∃ (S L : Addr) (many : Int), vs = [.ref S, .int many] ∧ StAt H S L ∧ 0 < many ∧ many < 1073741824 ∧
  ∀ d H', 0 ≤ d → d < many → StAt H' S L → SameBut S H H' → Q (.int d) H'
section
variable {P : Program} {w : World} {K : PySem.W.Frag} {mg : Str → Option Value} {base : Heap} {f C : Addr} {fd : FuncData}
theorem scSt : FnScope ["_law_script"] ["_law_script"] (defScope sStart) := ⟨rfl, rfl, rfl, by decide +kernel, rfl, by decide +kernel, by decide +kernel⟩
theorem ok_start (F : Fun K "_law_start" "_law_start" sStart f fd) (B : Blt mg) : FnOk P w K mg base CX0 1 f fd ["_law_script"] (spStart K) := by
  refine F.ok scSt (fun vs H Q E h => ?_) (fun cdv A outer s H vs Q E hr h => ?_)
  · obtain ⟨a, zs, rfl, _⟩ := h
    rfl
  · obtain ⟨a, zs, rfl, hS, k⟩ := h
    refine ⟨_, pss_one (ps_ret (pe_lst (pa_cons (pe_callTy call_list_of (by rfl) B.list (by decide +kernel) (pa_cons (pv 0) pa_nil)) (pa_cons pe_int (pa_cons pe_int (pa_cons pe_int pa_nil)))))), ?_⟩
    refine ⟨_, rfl, a, _, rfl, .inl hS, fun L hL => ⟨by show 4 ≤ sizeLine; decide, fun S hS2 => ?_⟩⟩
    have ne : L ≠ S := fun z => by rw [← z, upd_same] at hS2; cases hS2
    refine k S L _ (Same.new (Same.put hL) hS2) (Same.none (Same.put hL) hS2) ⟨⟨0, 0, 7, upd_same, Int.le_refl _⟩, ⟨zs, by rw [upd_ne ne, upd_same]⟩, ne⟩
theorem scDr : FnScope ["_law_state", "_law_many", "_law_digit", "_law_cell"] ["_law_state", "_law_many"] (defScope sDraw) := ⟨rfl, rfl, rfl, by decide +kernel, rfl, by decide +kernel, by decide +kernel⟩
theorem emod_range {a b : Int} (h : 0 < b) : 0 ≤ a % b ∧ a % b < b := ⟨Int.emod_nonneg _ (by omega), Int.emod_lt_of_pos _ h⟩
theorem ok_draw (F : Fun K "_law_draw" "_law_draw" sDraw f fd) (B : Blt mg) : FnOk P w K mg base CX0 1 f fd ["_law_state", "_law_many"] spDraw := by
  refine F.ok scDr (fun vs H Q E h => ?_) (fun cdv A outer s H vs Q E hr h => ?_)
  · obtain ⟨S, L, many, rfl, _⟩ := h
    rfl
  · obtain ⟨S, L, many, rfl, ST, hm, hm2, k⟩ := h
    obtain ⟨⟨i, r, z, hS, hi⟩, ⟨zs, hL⟩, ne⟩ := id ST
    refine ⟨_, pss_cons (ps_if (pt_cmpR op_gt (pe_ix ix_list (pv 0) pe_int (fun _ _ => rfl)) pe_int (nomark _))
        (pss_cons (ps_set (i := 2) scDr.nd rfl (Or.inl rfl) (pe_op op_mod (pe_callTy call_int1 (by rfl) B.int (by decide +kernel) (pa_cons (pe_ix ix_list (pv 0) pe_int (fun _ _ => rfl)) pa_nil)) (pv 1)))
        (pss_cons (ps_asg (pe_op op_fdiv (pe_ix ix_list (pv 0) pe_int (fun _ _ => rfl)) (pv 1)) (pg_sub (pv 0) pe_int set_list))
        (pss_one (ps_ret (pv 2))))) pss_nil)
      (pss_cons (ps_set (i := 3) scDr.nd rfl (Or.inl rfl) (pe_ifExp (pt_cmpR op_lt (pe_ix ix_list (pv 0) pe_int (fun _ _ => rfl)) (pe_callB call_len_seq (by rfl) B.len PySem.boot_len (pa_cons (pe_ix ix_list (pv 0) pe_int (fun _ _ => rfl)) pa_nil)) (nomark _))
          (pe_ix ix_list (pe_ix ix_list (pv 0) pe_int (fun _ _ => rfl)) (pe_ix ix_list (pv 0) pe_int (fun _ _ => rfl)) (fun _ _ => rfl)) pe_int))
      (pss_cons (ps_asg (pe_op op_add (pe_ix ix_list (pv 0) pe_int (fun _ _ => rfl)) pe_int) (pg_sub (pv 0) pe_int set_list))
      (pss_cons (ps_if (pt_cmpR op_ge (pv 3) (pe_op op_pow pe_int pe_int) (nomark _))
        (pss_cons (ps_asg (pe_op op_fdiv (pv 3) (pv 1)) (pg_sub (pv 0) pe_int set_list))
        (pss_one (ps_ret (pe_op op_mod (pe_callTy call_int1 (by rfl) B.int (by decide +kernel) (pa_cons (pv 3) pa_nil)) (pv 1))))) pss_nil)
      (pss_cons (ps_asg (pe_op op_mod (pe_callTy call_int1 (by rfl) B.int (by decide +kernel) (pa_cons (pe_op op_add (pe_op op_add (pe_op op_add (pe_op op_mul (pe_ix ix_list (pv 0) pe_int (fun _ _ => rfl)) pe_int) (pe_op op_mul (pv 3) pe_int)) (pe_op op_mul (pe_ix ix_list (pv 0) pe_int (fun _ _ => rfl)) pe_int)) pe_int) pa_nil)) pe_int) (pg_sub (pv 0) pe_int set_list))
      (pss_one (ps_ret (pe_op op_mod (pe_callTy call_int1 (by rfl) B.int (by decide +kernel) (pa_cons (pe_op op_mod (pe_callTy call_int1 (by rfl) B.int (by decide +kernel) (pa_cons (pe_op op_add (pe_op op_mul (pe_ix ix_list (pv 0) pe_int (fun _ _ => rfl)) pe_int) pe_int) pa_nil)) pe_int) pa_nil)) (pv 1)))))))), ?_⟩
    refine ⟨_, rfl, S, _, _, _, rfl, rfl, SqL.of hS, rfl, _, _, rfl, rfl, _, rfl, ?_⟩
    by_cases hr0 : (0 : Int) < r
    · rw [decide_eq_true hr0]
      refine iteT ?_
      refine ⟨_, rfl, S, _, _, _, rfl, rfl, SqL.of hS, rfl, .inl ⟨_, rfl, _, rfl, _, _, rfl, rfl, hm, ?_⟩⟩
      refine ⟨_, rfl, S, _, _, _, rfl, rfl, SqL.of hS, rfl, _, rfl, _, _, rfl, rfl, ⟨hm, hm2⟩, _, rfl, S, _, _, 2, rfl, rfl, hS, rfl, ?_⟩
      refine ⟨_, rfl, ?_⟩
      exact k _ _ (emod_range hm).1 (emod_range hm).2 (ST.set hi) SameBut.set
    · rw [decide_eq_false hr0]
      refine iteF ?_
      refine ⟨_, rfl, S, _, _, _, rfl, rfl, SqL.of hS, rfl, _, rfl, S, _, _, _, rfl, rfl, SqL.of hS, rfl, L, _, rfl, .inl (SqL.of hL), _, _, rfl, rfl, _, rfl, ?_⟩
      refine ite2 (fun hlt => ?_) (fun hlt => ?_)
      · have h1 : i < ((zs.map V.int).length : Int) := of_decide_eq_true hlt
        have h2 : i.toNat < zs.length := by rw [List.length_map] at h1; omega
        refine ⟨_, rfl, S, _, _, _, rfl, rfl, SqL.of hS, rfl, _, rfl, S, _, _, _, rfl, rfl, SqL.of hS, rfl, L, _, i, .int zs[i.toNat], rfl, rfl, SqL.of hL, ?_, ?_⟩
        · have e : ((i.toNat : Nat) : Int) = i := by omega
          have := atI_nat (xs := zs.map V.int) (j := i.toNat) (v := .int zs[i.toNat]) (by simp [h2])
          rw [e] at this
          exact this
        · skip
          refine ⟨_, rfl, S, _, _, _, rfl, rfl, SqL.of hS, rfl, _, _, rfl, rfl, _, rfl, S, _, _, 1, rfl, rfl, hS, rfl, ?_⟩
          refine ⟨_, rfl, _, _, rfl, rfl, ⟨by decide, by decide, by decide⟩, _, _, rfl, rfl, _, rfl, ?_⟩
          refine ite2 (fun _ => ?_) (fun _ => ?_)
          · refine ⟨_, rfl, _, rfl, _, _, rfl, rfl, ⟨hm, hm2⟩, _, rfl, S, _, _, 2, rfl, rfl, upd_same, rfl, ?_⟩
            refine ⟨_, rfl, .inl ⟨_, rfl, _, rfl, _, _, rfl, rfl, hm, ?_⟩⟩
            exact k _ _ (emod_range hm).1 (emod_range hm).2 ((ST.set (by omega)).set (by omega)) (SameBut.set.trans SameBut.set)
          · refine ⟨_, rfl, S, _, _, _, rfl, rfl, SqL.of upd_same, rfl, _, _, rfl, rfl, .inr ⟨by decide, by decide⟩, _, rfl, _, _, rfl, rfl, .inr ⟨by decide, by decide⟩, _, _, rfl, rfl, _, rfl, S, _, _, _, rfl, rfl, SqL.of upd_same, rfl, _, _, rfl, rfl, .inr ⟨by decide, by decide⟩, _, _, rfl, rfl, _, _, rfl, rfl,
              .inl ⟨_, rfl, _, _, rfl, rfl, (by show (0 : Int) < 2147483647; decide), _, rfl, S, _, _, 3, rfl, rfl, upd_same, rfl, ?_⟩⟩
            refine ⟨_, rfl, S, _, _, _, rfl, rfl, SqL.of upd_same, rfl, _, _, rfl, rfl, .inr ⟨by decide, by decide⟩, _, _, rfl, rfl, .inl ⟨_, rfl, _, _, rfl, rfl, (by show (0 : Int) < 2147483399; decide), .inl ⟨_, rfl, _, rfl, _, _, rfl, rfl, hm, ?_⟩⟩⟩
            exact k _ _ (emod_range hm).1 (emod_range hm).2 ((ST.set (by omega)).set (by omega)) (SameBut.set.trans SameBut.set)
      · skip
        refine ⟨_, rfl, S, _, _, _, rfl, rfl, SqL.of hS, rfl, _, _, rfl, rfl, _, rfl, S, _, _, 1, rfl, rfl, hS, rfl, ?_⟩
        refine ⟨_, rfl, _, _, rfl, rfl, ⟨by decide, by decide, by decide⟩, _, _, rfl, rfl, _, rfl, ?_⟩
        refine ite2 (fun _ => ?_) (fun _ => ?_)
        · refine ⟨_, rfl, _, rfl, _, _, rfl, rfl, ⟨hm, hm2⟩, _, rfl, S, _, _, 2, rfl, rfl, upd_same, rfl, ?_⟩
          refine ⟨_, rfl, .inl ⟨_, rfl, _, rfl, _, _, rfl, rfl, hm, ?_⟩⟩
          exact k _ _ (emod_range hm).1 (emod_range hm).2 ((ST.set (by omega)).set (by omega)) (SameBut.set.trans SameBut.set)
        · refine ⟨_, rfl, S, _, _, _, rfl, rfl, SqL.of upd_same, rfl, _, _, rfl, rfl, .inr ⟨by decide, by decide⟩, _, rfl, _, _, rfl, rfl, .inr ⟨by decide, by decide⟩, _, _, rfl, rfl, _, rfl, S, _, _, _, rfl, rfl, SqL.of upd_same, rfl, _, _, rfl, rfl, .inr ⟨by decide, by decide⟩, _, _, rfl, rfl, _, _, rfl, rfl,
            .inl ⟨_, rfl, _, _, rfl, rfl, (by show (0 : Int) < 2147483647; decide), _, rfl, S, _, _, 3, rfl, rfl, upd_same, rfl, ?_⟩⟩
          refine ⟨_, rfl, S, _, _, _, rfl, rfl, SqL.of upd_same, rfl, _, _, rfl, rfl, .inr ⟨by decide, by decide⟩, _, _, rfl, rfl, .inl ⟨_, rfl, _, _, rfl, rfl, (by show (0 : Int) < 2147483399; decide), .inl ⟨_, rfl, _, rfl, _, _, rfl, rfl, hm, ?_⟩⟩⟩
          exact k _ _ (emod_range hm).1 (emod_range hm).2 ((ST.set (by omega)).set (by omega)) (SameBut.set.trans SameBut.set)
end
end WW
namespace WW
open PySem PySem.Spec PyProof.Rows L2
def num (j : Nat) : Str := Str.ofString (toString (j : Int))
def nm (l : Str) (j : Nat) : Str := l ++ num j
theorem num_inj : ∀ i < 49, ∀ j < 49, num i = num j → i = j := by decide +kernel
theorem num_len : ∀ i < 49, (num i).length ≤ 2 := by decide +kernel
theorem nm_inj {l : Str} {i j : Nat} (hi : i < 49) (hj : j < 49) (h : nm l i = nm l j) : i = j := by
  have e : (l ++ num i).cps = (l ++ num j).cps := congrArg Str.cps h
  have e2 : l.cps ++ (num i).cps = l.cps ++ (num j).cps := e
  have e3 : (num i).cps = (num j).cps := by
    have := congrArg Array.toList e2
    simp only [Array.toList_append, List.append_cancel_left_eq] at this
    exact Array.toList_inj.mp this
  exact num_inj i hi j hj (by
    cases h1 : num i; cases h2 : num j
    rw [h1, h2] at e3
    exact congrArg Str.mk e3)
theorem nm_ne {c d : Nat} (h : c ≠ d) (i j : Nat) : nm ⟨#[c]⟩ i ≠ nm ⟨#[d]⟩ j := fun e => by
  have e2 : #[c] ++ (num i).cps = #[d] ++ (num j).cps := congrArg Str.cps e
  have := congrArg Array.toList e2
  simp only [Array.toList_append, List.cons_append, List.nil_append, List.cons.injEq] at this
  exact h this.1
/-- the names that are drawn for a letter -/
def NamesOf (l : Str) (ns : List Str) : Prop := ns.length ≤ 7 ∧ ∀ (k : Nat) (x : Str), ns[k]? = some x → ∃ d : Nat, d < 7 ∧ x = nm l (7 * k + d)
theorem NamesOf.nodup {l : Str} {ns : List Str} (h : NamesOf l ns) : ns.Nodup := by
  refine List.pairwise_iff_getElem.mpr fun i j hi hj hij e => ?_
  obtain ⟨d, hd, h1⟩ := h.2 i ns[i] (by simp [hi])
  obtain ⟨d', hd', h2⟩ := h.2 j ns[j] (by simp [hj])
  rw [h1, h2] at e
  have := nm_inj (by have := h.1; omega) (by have := h.1; omega) e
  omega
theorem NamesOf.mem {l : Str} {ns : List Str} (h : NamesOf l ns) {x : Str} (hx : x ∈ ns) : ∃ j, j < 49 ∧ x = nm l j := by
  obtain ⟨k, hk, rfl⟩ := List.getElem_of_mem hx
  obtain ⟨d, hd, e⟩ := h.2 k ns[k] (by simp [hk])
  exact ⟨7 * k + d, by have := h.1; omega, e⟩
end WW
namespace WW
open PySem PySem.Spec PyProof.Rows L2
def spNames : Sp := fun vs H Q _ => ∃ (S L : Addr) (many : Nat) (l : Str), vs = [.ref S, .int (many : Int), .str l] ∧ StAt H S L ∧ many ≤ 7 ∧ l.length = 1 ∧
  ∀ q H' ns, StAt H' S L → SameBut S H H' → H q = none → q ≠ S → H' q = some (.lst (ns.map V.str)) → NamesOf l ns → ns.length = many → Q (.ref q) H'
section
variable {P : Program} {w : World} {K : PySem.W.Frag} {mg : Str → Option Value} {base : Heap} {f C : Addr} {fd : FuncData}
theorem scN : FnScope ["_law_state", "_law_many", "_law_letter", "_law_k"] ["_law_state", "_law_many", "_law_letter"] (defScope sNames) := ⟨rfl, rfl, rfl, by decide +kernel, rfl, by decide +kernel, by decide +kernel⟩
theorem StAt.put {H : Hp} {S L p : Addr} {o : HO} (T : StAt H S L) (hp : H p = none) : StAt (upd H p o) S L := T.same (Same.put hp)
theorem StAt.off {H : Hp} {S L p : Addr} {o u : HO} (T : StAt H S L) (hp : H p = some u) (h1 : p ≠ S) (h2 : p ≠ L) : StAt (upd H p o) S L := by
  obtain ⟨⟨i, r, z, h, hi⟩, ⟨zs, hl⟩, ne⟩ := T
  exact ⟨⟨i, r, z, by rw [upd_ne (Ne.symm h1)]; exact h, hi⟩, ⟨zs, by rw [upd_ne (Ne.symm h2)]; exact hl⟩, ne⟩
theorem ok_names {fD : Addr} {fdD : FuncData} (F : Fun K "_law_names" "_law_names" sNames f fd) (B : Blt mg) (GD : FnOk P w K mg base CX0 1 fD fdD ["_law_state", "_law_many"] spDraw) (bD : L2.Binds K fdD ["_law_state", "_law_many"] []) (mD : mg "_law_draw" = some (.ref fD)) (kD : PySem.W.keepIn K (.ref fD) = true) :
    FnOk P w K mg base CX0 2 f fd ["_law_state", "_law_many", "_law_letter"] spNames := by
  refine F.ok scN (fun vs H Q E h => ?_) (fun cdv A outer s H vs Q E hr h => ?_)
  · obtain ⟨S, L, many, l, rfl, _⟩ := h
    rfl
  · obtain ⟨S, L, many, l, rfl, ST, hm, hl, k⟩ := h
    refine ⟨_, pss_one (ps_ret (pe_lc (own := [("_law_k", 3)]) (g := gName 3) (tt := tYes) rfl scN.nd (pi_range1 (by rfl) B.range (pa_cons (pv 1) pa_nil)) (blkOk_by (own := [("_law_k", 3)]) (N := ["_law_state", "_law_many", "_law_letter", "_law_k"]) (sc := defScope sNames) (by decide +kernel))
      (fun _ _ _ _ _ => pg_name (i := 3) scN.nd rfl (Or.inl rfl)) (fun _ _ _ _ _ => pts_nil) (fun _ _ _ _ _ => pe_op op_add_str (pv 2) (pe_callTy call_str_int (by rfl) B.str (by decide +kernel) (pa_cons (pe_op op_add (pe_op op_mul pe_int (pv 3)) (pe_call GD hr (by rfl) mD kD bD .nil pass0 (pa_cons (pv 0) (pa_cons pe_int pa_nil)))) pa_nil))))), ?_⟩
    refine ⟨_, rfl, (many : Int), rfl, by omega, by omega, fun D hD => ?_⟩
    obtain ⟨⟨i0, r0, z0, hS0, _⟩, ⟨zs0, hL0⟩, ne0⟩ := id ST
    have hDS : D ≠ S := fun z => by rw [z, hS0] at hD; cases hD
    have hDL : D ≠ L := fun z => by rw [z, hL0] at hD; cases hD
    refine lc_range (lo := 0) (n := many) (fun i H' => ∃ ns, StAt H' S L ∧ SameBut S H H' ∧ H' D = some (.lst (ns.map V.str)) ∧ NamesOf l ns ∧ ns.length = i) ?_ ?_ ?_
    · exact ⟨[], ST.put hD, .of (Same.put hD), upd_same, ⟨by simp, fun k x h => by simp at h⟩, rfl⟩
    · rintro i H1 hi ⟨ns, S1, sb, eD, hn, rfl⟩
      refine ⟨rfl, ?_⟩
      unfold tYes
      refine iteT ?_
      refine ⟨_, rfl, _, rfl, _, _, rfl, rfl, .inl ⟨by decide, by decide⟩, ?_⟩
      refine ⟨_, rfl, S, L, 7, rfl, S1, by decide, by decide, fun d H2 d0 d7 S2 sb2 => ?_⟩
      have hd : d = ((d.toNat : Nat) : Int) := by omega
      have e : (7 : Int) * (0 + (ns.length : Nat)) + d = ((7 * ns.length + d.toNat : Nat) : Int) := by omega
      have lt : 7 * ns.length + d.toNat < 49 := by omega
      refine ⟨_, _, rfl, rfl, _, rfl, ?_, l, num (7 * ns.length + d.toNat), rfl, by rw [e]; rfl, ?_, ?_⟩
      · rw [e]
        show ((7 * ns.length + d.toNat : Nat) : Int).natAbs.log2 < 1920
        rw [Int.natAbs_natCast]
        exact Nat.lt_of_le_of_lt (Nat.log2_le_self _) (by omega)
      · have := num_len _ lt
        rw [hl]
        exact Nat.le_trans (Nat.add_le_add_left this 1) (by decide)
      · have eD2 : H2 D = some (.lst (ns.map V.str)) := sb2 _ _ eD hDS
        refine ⟨_, eD2, small1000 (by rw [List.length_map]; omega), ns ++ [nm l (7 * ns.length + d.toNat)], S2.off eD2 hDS hDL, ?_, by rw [upd_same, List.map_append]; rfl, ⟨by simp; omega, fun k x hx => ?_⟩, by simp⟩
        · intro b o e1 nb
          rw [upd_ne (ne_of_none e1 hD)]
          exact sb2 _ _ (sb _ _ e1 nb) nb
        · rw [List.getElem?_append] at hx
          split at hx
          · exact hn.2 k x hx
          · rename_i hk
            have hk2 : k = ns.length := by
              by_cases q : k - ns.length = 0
              · omega
              · rw [List.getElem?_singleton, if_neg q] at hx
                cases hx
            rw [hk2, Nat.sub_self] at hx
            have : x = nm l (7 * ns.length + d.toNat) := (Option.some.inj hx).symm
            exact ⟨d.toNat, by omega, by rw [hk2, this]⟩
    · rintro H1 ⟨ns, S1, sb, eD, hn, hl2⟩
      exact k D H1 ns S1 sb hD hDS eD hn hl2
end
end WW
namespace WW
open PySem PySem.Spec PyProof.Rows L2
def spMap : Sp := fun vs H Q _ => ∃ (S L a b : Addr) (xs ys : List Str), vs = [.ref S, .ref a, .ref b] ∧ StAt H S L ∧ H a = some (.lst (xs.map V.str)) ∧ H b = some (.lst (ys.map V.str)) ∧ a ≠ S ∧ b ≠ S ∧ xs.length ≤ 7 ∧ ys.length = xs.length ∧ xs.Nodup ∧
  ∀ q H' m, StAt H' S L → SameBut S H H' → H q = none → q ≠ S → H' q = some (.dK (dS m)) → keys m = xs → (vals m).Perm ys → Q (.ref q) H'
section
variable {P : Program} {w : World} {K : PySem.W.Frag} {mg : Str → Option Value} {base : Heap} {f C : Addr} {fd : FuncData}
theorem scMp : FnScope ["_law_state", "_law_names_here", "_law_targets", "_law_order", "_law_k", "_law_found", "_law_name"] ["_law_state", "_law_names_here", "_law_targets"] (defScope sMap) := ⟨rfl, rfl, rfl, by decide +kernel, rfl, by decide +kernel, by decide +kernel⟩
theorem ok_map {fD : Addr} {fdD : FuncData} (F : Fun K "_law_map" "_law_map" sMap f fd) (B : Blt mg) (GD : FnOk P w K mg base CX0 1 fD fdD ["_law_state", "_law_many"] spDraw) (bD : L2.Binds K fdD ["_law_state", "_law_many"] []) (mD : mg "_law_draw" = some (.ref fD)) (kD : PySem.W.keepIn K (.ref fD) = true) :
    FnOk P w K mg base CX0 2 f fd ["_law_state", "_law_names_here", "_law_targets"] spMap := by
  refine F.ok scMp (fun vs H Q E h => ?_) (fun cdv A outer s H vs Q E hr h => ?_)
  · obtain ⟨S, L, a, b, xs, ys, rfl, _⟩ := h
    rfl
  · obtain ⟨S, L, a, b, xs, ys, rfl, ST, ha, hb, naS, nbS, hl, hl2, nd, k⟩ := h
    have hu := hu_of hr
    refine ⟨_, pss_cons (ps_set (i := 3) scMp.nd rfl (Or.inl rfl) (pe_lst pa_nil))
      (pss_cons (ps_for PassesOwn.never rfl (pi_range1 (by rfl) B.range (pa_cons (pe_callB call_len_seq (by rfl) B.len PySem.boot_len (pa_cons (pv 1) pa_nil)) pa_nil)) (pg_name (i := 4) scMp.nd rfl (Or.inl rfl))
        (pss_one (ps_expr (pe_bm PySem.F.plainAttrs_list PySem.F.slot_list_insert PySem.F.type_list_insert mt_insert (pv 3) (pa_cons (pe_call GD hr (by rfl) mD kD bD .nil pass0 (pa_cons (pv 0) (pa_cons (pe_op op_add (pv 4) pe_int) pa_nil))) (pa_cons (pe_ix ix_list (pv 2) (pv 4) (fun _ _ => rfl)) pa_nil))))))
      (pss_cons (ps_set (i := 5) scMp.nd rfl (Or.inl rfl) pe_dnewK)
      (pss_cons (ps_for PassesOwn.never rfl (pi_enum (by rfl) B.enumerate (pa_cons (pv 1) pa_nil)) (pg_tup (by rfl) (pgs_cons (pg_name (i := 4) scMp.nd rfl (Or.inl rfl)) (pgs_cons (pg_name (i := 6) scMp.nd rfl (Or.inl rfl)) pgs_nil)))
        (pss_one (ps_dput hu (pv 5) (pv 6) (pe_ix ix_list (pv 3) (pv 4) (fun _ _ => rfl)) rfl)))
      (pss_one (ps_ret (pv 5)))))), ?_⟩
    obtain ⟨⟨i0, r0, z0, hS0, _⟩, ⟨zs0, hL0⟩, ne0⟩ := id ST
    refine ⟨by show 0 ≤ sizeLine; decide, fun O hO => ?_⟩
    have hOS : O ≠ S := fun z => by rw [z, hS0] at hO; cases hO
    have hOL : O ≠ L := fun z => by rw [z, hL0] at hO; cases hO
    have hOa : a ≠ O := ne_of_none ha hO
    have hOb : b ≠ O := ne_of_none hb hO
    refine ⟨_, rfl, a, _, rfl, .inl (SqL.of (by rw [upd_ne hOa]; exact ha)), _, rfl, by rw [List.length_map]; omega, by rw [List.length_map]; omega, ?_⟩
    have en : (((xs.map V.str).length : Int)).toNat = xs.length := by rw [List.length_map]; omega
    rw [en]
    refine for_range (lo := 0) (n := xs.length) (fun i σ H' => ∃ (os : List Str) (v4 : Option V), σ = [some (.ref S), some (.ref a), some (.ref b), some (.ref O), v4, none, none] ∧ StAt H' S L ∧ SameBut S H H' ∧ H' O = some (.lst (os.map V.str)) ∧ os.Perm (ys.take i)) ?_ ?_ ?_
    · exact ⟨[], none, rfl, ST.put hO, .of (Same.put hO), upd_same, by simp⟩
    · rintro i σ H1 hi ⟨os, v4, rfl, S1, sb, eO, pm⟩
      have hlen : os.length = i := by rw [pm.length_eq, List.length_take]; omega
      have hi2 : i < ys.length := by omega
      refine ⟨_, rfl, .inl ⟨rfl, _, SqL.of eO⟩, _, rfl, _, rfl, _, _, rfl, rfl, S, L, (i : Int) + 1, by simp, S1, by omega, by omega, fun d H2 d0 d1 S2 sb2 => ?_⟩
      have eb2 : H2 b = some (.lst (ys.map V.str)) := sb2 _ _ (sb _ _ hb nbS) nbS
      have eO2 : H2 O = some (.lst (os.map V.str)) := sb2 _ _ eO hOS
      refine ⟨_, rfl, _, rfl, b, _, _, .str ys[i], rfl, rfl, SqL.of eb2, ?_, ?_⟩
      · rw [Int.zero_add]
        exact atI_nat (by simp [hi2])
      refine ⟨O, _, d, _, rfl, rfl, eO2, small1000 (by rw [List.length_map]; omega), d0, by omega, ?_⟩
      refine ⟨os.take d.toNat ++ [ys[i]] ++ os.drop d.toNat, _, rfl, S2.off eO2 hOS hOL, ?_, ?_, ?_⟩
      · intro c o e nc
        have hc : c ≠ O := ne_of_none e hO
        rw [upd_ne hc]
        exact sb2 _ _ (sb _ _ e nc) nc
      · rw [upd_same, List.map_append, List.map_append, List.map_take, List.map_drop]
        rfl
      · rw [List.take_succ_eq_append_getElem hi2]
        have h1 : (os.take d.toNat ++ [ys[i]] ++ os.drop d.toNat).Perm (ys[i] :: (os.take d.toNat ++ os.drop d.toNat)) := by
          rw [List.append_assoc]
          exact List.perm_middle
        rw [List.take_append_drop] at h1
        exact h1.trans ((List.Perm.cons _ pm).trans (List.perm_append_singleton _ _).symm)
    · rintro σ H1 ⟨os, v4, rfl, S1, sb, eO, pm⟩
      rw [List.take_of_length_le (by omega)] at pm
      have hos : os.length = xs.length := by rw [pm.length_eq, hl2]
      intro D hD
      obtain ⟨⟨i1, r1, z1, hS1, _⟩, ⟨zs1, hL1⟩, _⟩ := id S1
      have hDS : D ≠ S := fun z => by rw [z, hS1] at hD; cases hD
      have hDL : D ≠ L := fun z => by rw [z, hL1] at hD; cases hD
      have hDO : O ≠ D := ne_of_none eO hD
      have ha1 : H1 a = some (.lst (xs.map V.str)) := sb _ _ ha naS
      have hDa : a ≠ D := ne_of_none ha1 hD
      have hD0 : H D = none := by
        cases e : H D with
        | none => rfl
        | some o => rw [sb _ _ e hDS] at hD; cases hD
      refine ⟨_, rfl, a, _, rfl, SqL.of (by rw [upd_ne hDa]; exact ha1), ?_⟩
      refine for_it (walk_enum (K := K) (a := a) (xs := xs.map V.str)) (fun i σ H' => ∃ (v4 v6 : Option V), σ = [some (.ref S), some (.ref a), some (.ref b), some (.ref O), v4, some (.ref D), v6] ∧ StAt H' S L ∧ SameBut S H H' ∧ H' O = some (.lst (os.map V.str)) ∧ H' a = some (.lst (xs.map V.str)) ∧ H' D = some (.dK (dS ((xs.zip os).take i)))) ?_ ?_ ?_ ?_
      · exact ⟨v4, none, rfl, S1.put hD, sb.trans (.of (Same.put hD)), by rw [upd_ne hDO]; exact eO, by rw [upd_ne hDa]; exact ha1, by rw [upd_same]; simp [dS]⟩
      · rintro i σ H2 hi ⟨_, _, _, _, _, _, e, _⟩
        exact SqL.of e
      · rintro i x σ H2 H3 hi ⟨v4, v6, rfl, S2, sb2, eO2, ea2, eD2⟩ ⟨Tp, x1, x2, rfl, hT, rfl, e1, e2⟩
        have hi3 : i < xs.length := by rw [List.length_map] at hi; exact hi
        have hi4 : i < os.length := by omega
        cases e1
        obtain ⟨nme, hn, rfl⟩ := getS e2
        refine ⟨Tp, _, rfl, SqT.of upd_same, rfl, _, _, rfl, _, _, rfl, rfl, ?_⟩
        have nO : O ≠ Tp := ne_of_none eO2 hT
        have nD : D ≠ Tp := ne_of_none eD2 hT
        have na : a ≠ Tp := ne_of_none ea2 hT
        refine ⟨_, rfl, _, rfl, O, _, _, .str os[i], rfl, rfl, SqL.of (by rw [upd_ne nO]; exact eO2), atI_nat (by simp [hi4]), ?_⟩
        refine ⟨_, rfl, _, rfl, D, _, rfl, DPut.k (k := Sum.inr nme) (by rw [upd_ne nD]; exact eD2) (small1000 (by rw [dS_length, List.length_take, List.length_zip]; omega)), ?_⟩
        refine ⟨_, _, rfl, ?_, ?_, ?_, ?_, ?_⟩
        · exact (S2.put hT).off (by rw [upd_ne nD]; exact eD2) hDS hDL
        · intro c o e nc
          rw [upd_ne (ne_of_none e hD0)]
          have := sb2 _ _ e nc
          rw [upd_ne (ne_of_none this hT)]
          exact this
        · rw [upd_ne hDO, upd_ne nO]; exact eO2
        · rw [upd_ne hDa, upd_ne na]; exact ea2
        · rw [upd_same]
          have hz : (xs.zip os)[i]? = some (nme, os[i]) := by
            rw [List.getElem?_zip_eq_some]
            exact ⟨hn, by simp [hi4]⟩
          have kz : (xs.zip os).map (·.1) = xs := List.map_fst_zip (by omega)
          have := putK_map (fun p : Str × Str => (Sum.inr p.1 : Key)) (fun p => V.str p.2) (l := xs.zip os) (by have := nodup_inr (l := (xs.zip os).map (·.1)) (by rw [kz]; exact nd); rw [List.map_map] at this; exact this) hz
          exact congrArg (fun z => some (HO.dK z)) this.symm
      · rintro σ H2 ⟨v4, v6, rfl, S2, sb2, eO2, ea2, eD2⟩
        rw [List.take_of_length_le (by rw [List.length_zip, List.length_map]; omega)] at eD2
        refine ⟨_, rfl, k D H2 (xs.zip os) S2 sb2 hD0 hDS eD2 (List.map_fst_zip (by omega)) ?_⟩
        show ((xs.zip os).map (·.2)).Perm ys
        rw [List.map_snd_zip (by omega)]
        exact pm
end
end WW
namespace WW
open PySem PySem.Spec PyProof.Rows L2
def spThen : Sp := fun vs H Q _ => ∃ (a b : Addr) (m n : SM), vs = [.ref a, .ref b] ∧ H a = some (.dK (dS m)) ∧ H b = some (.dK (dS n)) ∧ a ≠ b ∧ Gd m ∧ Gd n ∧ (∀ v ∈ vals m, v ∈ keys n) ∧ ∀ q H', Same H H' → H q = none → H' q = some (.dK (dS (comp m n))) → Q (.ref q) H'
def spBack : Sp := fun vs H Q _ => ∃ (a : Addr) (m : SM), vs = [.ref a] ∧ H a = some (.dK (dS m)) ∧ Gd m ∧ ∀ q H', Same H H' → H q = none → H' q = some (.dK (dS (inv m))) → Q (.ref q) H'
section
variable {P : Program} {w : World} {K : PySem.W.Frag} {mg : Str → Option Value} {base : Heap} {f C : Addr} {fd : FuncData}
theorem scTh : FnScope ["_law_images", "_law_later", "_law_found", "_law_name"] ["_law_images", "_law_later"] (defScope sThen) := ⟨rfl, rfl, rfl, by decide +kernel, rfl, by decide +kernel, by decide +kernel⟩
theorem ok_then (F : Fun K "_law_then" "_law_then" sThen f fd) : FnOk P w K mg base CX0 1 f fd ["_law_images", "_law_later"] spThen := by
  refine F.ok scTh (fun vs H Q E h => ?_) (fun cdv A outer s H vs Q E hr h => ?_)
  · obtain ⟨a, b, m, n, rfl, _⟩ := h
    rfl
  · obtain ⟨a, b, m, n, rfl, ha, hb, ne, g, g', sub, k⟩ := h
    have hu := hu_of hr
    refine ⟨_, pss_cons (ps_set (i := 2) scTh.nd rfl (Or.inl rfl) pe_dnewK)
      (pss_cons (ps_lock (ps_for PassesOwn.never rfl (pi_keys (pv 0)) (pg_name (i := 3) scTh.nd rfl (Or.inl rfl))
        (pss_one (ps_dput hu (pv 2) (pv 3) (pe_dget hu (pv 1) (pe_dget hu (pv 0) (pv 3) (fun _ _ => rfl)) (fun _ _ => rfl)) rfl))))
      (pss_one (ps_ret (pv 2)))), ?_⟩
    intro D hD
    have hDa : a ≠ D := ne_of_none ha hD
    have hDb : b ≠ D := ne_of_none hb hD
    have len : m.length < 64 := g.2.2
    refine ⟨a, .dK (dS m), by rw [upd_ne hDa]; exact ha, trivial, fun od => ?_⟩
    refine ⟨_, rfl, a, od, rfl, .inl ⟨dS m, upd_same, ?_⟩⟩
    refine for_it (walk_keys (d := a) (o := od) (kvs := dS m)) (fun i σ H' => ∃ v3 : Option V, σ = [some (.ref a), some (.ref b), some (.ref D), v3] ∧ (∀ c o, H c = some o → c ≠ a → H' c = some o) ∧ H' a = some (.frz od (.dK (dS m))) ∧ H' D = some (.dK (dS ((comp m n).take i)))) ?_ ?_ ?_ ?_
    · exact ⟨none, rfl, fun c o e nc => by rw [upd_ne nc, upd_ne (ne_of_none e hD)]; exact e, upd_same, by rw [upd_ne (Ne.symm hDa), upd_same]; simp [dS]⟩
    · rintro i σ H1 hi ⟨_, _, _, e, _⟩
      exact e
    · rintro i x σ H1 H2 hi ⟨v3, rfl, kp, ea, eD⟩ ⟨rfl, kk, v, e, rfl⟩
      obtain ⟨y, z, hab, rfl, rfl⟩ := getD e
      have mem : (y, z) ∈ m := List.mem_of_getElem? hab
      have lk1 : m.lookup y = some z := lookup_of g.1 mem
      have lk2 : n.lookup z = some (img n z) := lookup_img (sub z (List.mem_map.mpr ⟨(y, z), mem, rfl⟩))
      refine ⟨_, rfl, _, rfl, _, rfl, a, _, rfl, dget_R (.inr ⟨od, ea⟩) lk1, b, _, rfl, dget_R (.inl (kp _ _ hb (Ne.symm ne))) lk2, _, rfl, _, rfl, D, _, rfl, DPut.k (k := Sum.inr y) eD (small1000 (by rw [dS_length, List.length_take]; unfold comp; rw [List.length_map]; omega)), ?_⟩
      refine ⟨_, rfl, fun c o e nc => by rw [upd_ne (ne_of_none e hD)]; exact kp c o e nc, by rw [upd_ne hDa]; exact ea, ?_⟩
      rw [upd_same, dS_comp_take, dS_comp_take]
      exact congrArg (fun z => some (HO.dK z)) (putK_map (fun p : Str × Str => (Sum.inr p.1 : Key)) (fun p => V.str (img n p.2)) (by have := nodup_inr g.1; rw [List.map_map] at this; exact this) hab).symm
    · rintro σ H1 ⟨v3, rfl, kp, ea, eD⟩
      rw [List.take_of_length_le (by rw [dS_length]; unfold comp; rw [List.length_map]; exact Nat.le_refl _)] at eD
      refine ⟨ea, ?_⟩
      refine ⟨_, rfl, k D _ (fun c o e => ?_) hD (by rw [upd_ne (Ne.symm hDa)]; exact eD)⟩
      by_cases hc : c = a
      · subst hc
        rw [upd_same]
        rw [ha] at e
        exact e
      · rw [upd_ne hc]
        exact kp c o e hc
theorem scBk : FnScope ["_law_images", "_law_found", "_law_name"] ["_law_images"] (defScope sBack) := ⟨rfl, rfl, rfl, by decide +kernel, rfl, by decide +kernel, by decide +kernel⟩
theorem ok_back (F : Fun K "_law_back" "_law_back" sBack f fd) : FnOk P w K mg base CX0 1 f fd ["_law_images"] spBack := by
  refine F.ok scBk (fun vs H Q E h => ?_) (fun cdv A outer s H vs Q E hr h => ?_)
  · obtain ⟨a, m, rfl, _⟩ := h
    rfl
  · obtain ⟨a, m, rfl, ha, g, k⟩ := h
    have hu := hu_of hr
    refine ⟨_, pss_cons (ps_set (i := 1) scBk.nd rfl (Or.inl rfl) pe_dnewK)
      (pss_cons (ps_lock (ps_for PassesOwn.never rfl (pi_keys (pv 0)) (pg_name (i := 2) scBk.nd rfl (Or.inl rfl))
        (pss_one (ps_dput hu (pv 1) (pe_dget hu (pv 0) (pv 2) (fun _ _ => rfl)) (pv 2) rfl))))
      (pss_one (ps_ret (pv 1)))), ?_⟩
    intro D hD
    have hDa : a ≠ D := ne_of_none ha hD
    have len : m.length < 64 := g.2.2
    refine ⟨a, .dK (dS m), by rw [upd_ne hDa]; exact ha, trivial, fun od => ?_⟩
    refine ⟨_, rfl, a, od, rfl, .inl ⟨dS m, upd_same, ?_⟩⟩
    refine for_it (walk_keys (d := a) (o := od) (kvs := dS m)) (fun i σ H' => ∃ v3 : Option V, σ = [some (.ref a), some (.ref D), v3] ∧ (∀ c o, H c = some o → c ≠ a → H' c = some o) ∧ H' a = some (.frz od (.dK (dS m))) ∧ H' D = some (.dK (dS ((inv m).take i)))) ?_ ?_ ?_ ?_
    · exact ⟨none, rfl, fun c o e nc => by rw [upd_ne nc, upd_ne (ne_of_none e hD)]; exact e, upd_same, by rw [upd_ne (Ne.symm hDa), upd_same]; simp [dS]⟩
    · rintro i σ H1 hi ⟨_, _, _, e, _⟩
      exact e
    · rintro i x σ H1 H2 hi ⟨v3, rfl, kp, ea, eD⟩ ⟨rfl, kk, v, e, rfl⟩
      obtain ⟨y, z, hab, rfl, rfl⟩ := getD e
      have mem : (y, z) ∈ m := List.mem_of_getElem? hab
      have lk1 : m.lookup y = some z := lookup_of g.1 mem
      refine ⟨_, rfl, _, rfl, _, rfl, _, rfl, a, _, rfl, dget_R (.inr ⟨od, ea⟩) lk1, D, _, rfl, DPut.k (k := Sum.inr z) eD (small1000 (by rw [dS_length, List.length_take, inv_len]; omega)), ?_⟩
      refine ⟨_, rfl, fun c o e nc => by rw [upd_ne (ne_of_none e hD)]; exact kp c o e nc, by rw [upd_ne hDa]; exact ea, ?_⟩
      rw [upd_same, dS_inv_take, dS_inv_take]
      exact congrArg (fun z => some (HO.dK z)) (putK_map (fun p : Str × Str => (Sum.inr p.2 : Key)) (fun p => V.str p.1) (by have := nodup_inr g.2.1; rw [List.map_map] at this; exact this) hab).symm
    · rintro σ H1 ⟨v3, rfl, kp, ea, eD⟩
      rw [List.take_of_length_le (by rw [dS_length, inv_len]; exact Nat.le_refl _)] at eD
      refine ⟨ea, ?_⟩
      refine ⟨_, rfl, k D _ (fun c o e => ?_) hD (by rw [upd_ne (Ne.symm hDa)]; exact eD)⟩
      by_cases hc : c = a
      · subst hc
        rw [upd_same]
        rw [ha] at e
        exact e
      · rw [upd_ne hc]
        exact kp c o e hc
end
end WW
namespace WW
open PySem PySem.Spec PyProof.Rows L2
theorem fnR_of {P : Program} {w : World} {K : PySem.W.Frag} {mg : Str → Option Value} {base : Heap} {CX : CXT} {k : Nat} {f : Addr} {fd : FuncData} {ps : List Str} {sp : Sp} (F : FnOk P w K mg base CX k f fd ps sp) (hb : L2.Binds K fd ps []) : FnR P w K mg base CX k f sp := by
  intro A outer s H us vs Q E hr e0 r h
  have KX : K.In s.heap := e0.mod.kin.keeps fun b o e => (e0.bs b o e).1
  have hl : us.length = ps.length := by rw [← r.length]; exact F.len _ _ _ _ h
  have := hb s us KX (by simpa using hl)
  rw [List.append_nil] at this
  exact F.run A outer s H ⟨us, []⟩ us vs Q E hr e0 this r h
/-- the data of a list of pairs -/
def dPairs (l : SM) : PyData := .list (l.map fun p => .tuple [.str p.1, .str p.2])
theorem dp_pairs {K : PySem.W.Frag} {H : Hp} : ∀ {l : SM} {ts : List Addr}, Prs H ts (vv l) → DpAll K H (ts.map V.ref) (l.map fun p => PyData.tuple [.str p.1, .str p.2])
  | [], [], .nil => .nil
  | p :: l, t :: ts, .cons h r => .cons (.tup (SqT.of h) (.cons (.str _) (.cons (.str _) .nil))) (dp_pairs r)
theorem depth_pairs : ∀ l : SM, PyData.depthAll (l.map fun p => PyData.tuple [.str p.1, .str p.2]) ≤ 3
  | [] => by simp [PyData.depthAll]
  | p :: l => by
    have := depth_pairs l
    rw [List.map_cons, PyData.depthAll]
    refine Nat.max_le.mpr ⟨?_, this⟩
    simp [PyData.depth, PyData.depthAll]
theorem lay_pairs : ∀ l : SM, (∀ p ∈ l, PyData.strOk p.1 = true ∧ PyData.strOk p.2 = true) → PyData.canLayAll0 (l.map fun p => PyData.tuple [.str p.1, .str p.2]) = true
  | [], _ => by simp [PyData.canLayAll0]
  | p :: l, h => by
    have ih := lay_pairs l fun q hq => h q (List.mem_cons_of_mem _ hq)
    have hp := h p List.mem_cons_self
    rw [List.map_cons, PyData.canLayAll0, ih]
    simp [PyData.canLay0, PyData.canLayAll0, hp.1, hp.2]
theorem shaped_pairs {l : SM} (h : ∀ p ∈ l, PyData.strOk p.1 = true ∧ PyData.strOk p.2 = true) : SeqAt.shaped (dPairs l) = true := by
  unfold SeqAt.shaped dPairs
  rw [Bool.and_eq_true]
  refine ⟨by rw [PyData.canLay0]; exact lay_pairs l h, decide_eq_true ?_⟩
  have := depth_pairs l
  rw [PyData.depth]
  omega
theorem eqv_pairs {l : SM} (h : ∀ p ∈ l, PyData.strOk p.1 = true ∧ PyData.strOk p.2 = true) : PyData.eqv (dPairs l) (dPairs l) = true := SeqAt.eqv_refl _ (SeqAt.canLay_of_shaped (shaped_pairs h))
/-! ### o(e, ..), o an instance of C -/
def tCallI (C : Addr) (sp : Sp) (E : XK) (tf : TE) (t : TA) : TE := fun σ H Q => tf σ H fun y H1 => ∃ a, y = V.ref a ∧ t σ H1 fun vs H2 => (∃ (dx : Addr) (fs : List (Str × V)), H2 a = some (.ins C dx fs)) ∧ sp (V.ref a :: vs) H2 Q E
theorem pe_callI {X : Cx} {CX : CXT} {k : Nat} {g C : Addr} {sp : Sp} {E : XK} {fe e : Expr} {es : List Expr} {tf : TE} {t : TA} {pos : Pos} (hf : PE X fe tf) (c : StX.CallO X.K C g) (F : FnR X.prog X.w X.K X.mg X.base CX k g sp) (hr : Room k X.A) (hx : Passes CX X E) (ha : PA X (e :: es) t)
    (ht : eval (.Call fe (e :: es) [] pos) X.env = (do callWith pos (← eval fe X.env) [] (backTo pos (starEach (e :: es) X.env)) (backToKw pos (keywordEach [] X.env))) := by rfl)
    (he : starEach (e :: es) X.env = (false, eval e X.env) :: starEach es X.env := by rfl) (hpl : (backTo pos (starEach es X.env)).any (·.1) = false := by rfl) : PE X (.Call fe (e :: es) [] pos) (tCallI C sp E tf t) := by
  refine ⟨fun pins s σ H Q I h => ?_⟩
  refine Call_ (thn (hf.run pins s σ H _ I h) fun u s1 ⟨y, H1, I1, ry, a, ey, q⟩ => ?_) ht
  subst ey
  obtain rfl : u = Value.ref a := ry
  refine StX.callO_with (thn (ha.run pos pins s1 σ H1 _ I1 q) fun us s2 ⟨vs, H2, I2, r, ⟨dx, fs, hi⟩, q2⟩ => ?_) he hpl
  obtain ⟨ox, od, J, hd⟩ := StX.insC_at I2 (C := C) (.inr ⟨dx, fs, hi⟩)
  exact ⟨⟨C, ox, od, J, hd⟩, StX.run_callO c F hr hx I2 (.inr ⟨dx, fs, hi⟩) r q2⟩
end WW
namespace WW
open PySem PySem.Spec PyProof.Rows L2
def OkS (m : SM) : Prop := ∀ p ∈ m, PyData.strOk p.1 = true ∧ PyData.strOk p.2 = true
def spHolds (C : Addr) : Sp := fun vs H Q _ => ∃ (p a b : Addr) (m1 m2 : SM), vs = [.ref p, .ref a, .ref b] ∧ MatchAt C H p m1 m2 ∧ H a = some (.dK (dS m1)) ∧ H b = some (.dK (dS m2)) ∧ OkS m1 ∧ ∀ H', Same H H' → Q (.bl true) H'
theorem pairsOf_ok {m : SM} (g : Gd m) (h : OkS m) : OkS (pairsOf m) := by
  intro p hp
  obtain ⟨k, hk, rfl⟩ := List.mem_map.mp hp
  have hk2 : k ∈ keys m := (sortS_perm _).mem_iff.mp hk
  exact h (k, img m k) (img_mem hk2)
structure MFns (P : Program) (w : World) (K : PySem.W.Frag) (mg : Str → Option Value) (base : Heap) (C : Addr) : Prop where
  netMap : ∃ f fd, Meth K C "net_map" f ∧ FnOk P w K mg base CX0 1 f fd ["self"] (spNetMap C) ∧ L2.Binds K fd ["self"] []
  idMap : ∃ f fd, Meth K C "id_map" f ∧ FnOk P w K mg base CX0 1 f fd ["self"] (spIdMap C) ∧ L2.Binds K fd ["self"] []
  idOf : ∃ f fd, Meth K C "id_of" f ∧ FnOk P w K mg base CX0 1 f fd ["self", "name"] (spIdOf C) ∧ L2.Binds K fd ["self", "name"] []
  len : ∃ f fd, Meth K C "__len__" f ∧ FnOk P w K mg base CX0 1 f fd ["self"] (spLenM C) ∧ L2.Binds K fd ["self"] []
  call : ∃ f, StX.CallO K C f ∧ FnR P w K mg base CX0 1 f (spCallM C)
  iter : ∃ f fd, Meth K C "__iter__" f ∧ Fun K "__iter__" "Matching.__iter__" sIter f fd ∧ L2.Binds K fd ["self"] []
section
variable {P : Program} {w : World} {K : PySem.W.Frag} {mg : Str → Option Value} {base : Heap} {f C : Addr} {fd : FuncData}
abbrev nH : List Str := ["_law_told", "_law_nets", "_law_ids", "_law_pair", "_law_net", "_law_name"]
theorem scH : FnScope nH ["_law_told", "_law_nets", "_law_ids"] (defScope sHolds) := ⟨rfl, rfl, rfl, by decide +kernel, rfl, by decide +kernel, by decide +kernel⟩
theorem ok_holds (F : Fun K "_law_holds" "_law_holds" sHolds f fd) (T : MTxt K mg C) (B : Blt mg) (G : MFns P w K mg base C) : FnOk P w K mg base CX0 4 f fd ["_law_told", "_law_nets", "_law_ids"] (spHolds C) := by
  obtain ⟨⟨fn, fdn, mn, Gn, bn⟩, ⟨fi, fdi, mi, Gi, bi⟩, ⟨fo, fdo, mo, Go, bo⟩, ⟨fl, fdl, ml, Gl, bl⟩, ⟨fc, cc, Gc⟩, ⟨ft, fdt, mt, Ft, bt⟩⟩ := G
  refine F.ok scH (fun vs H Q E h => ?_) (fun cdv A outer s H vs Q E hr h => ?_)
  · obtain ⟨p, a, b, m1, m2, rfl, _⟩ := h
    rfl
  · obtain ⟨p, a, b, m1, m2, rfl, M, ha, hb, ok, k⟩ := h
    have hu := hu_of hr
    have hu0 : _ < _ := hr.units0
    have hr1 : Room 1 _ := hr.mono (by decide)
    have hr2 : Room 2 _ := hr.mono (by decide)
    refine ⟨_, pss_cons (ps_if (PW.pt (pw_or (pt_not (pt_val (pe_callB (C8.call_isC T.ins) (by rfl) B.isinstance (by decide +kernel) (pa_cons (pv 0) (pa_cons (pe_glob (v := .ref C) rfl T.mgC rfl) pa_nil)))))
        (pw_or (pt_cmpR (op_neDS hu0) (pe_meth0 (pv 0) T.cl mn Gn hr1 bn .nil pass0) (pv 1) (nomark _))
        (pw_or (pt_cmpR (op_neDS hu0) (pe_meth0 (pv 0) T.cl mi Gi hr1 bi .nil pass0) (pv 2) (nomark _))
        (pw_or1 (pt_cmpR op_ne (pe_callB (call_lenO ml Gl hr2 bl pass0) (by rfl) B.len PySem.boot_len (pa_cons (pv 0) pa_nil)) (pe_callB call_lenD (by rfl) B.len PySem.boot_len (pa_cons (pv 1) pa_nil)) (nomark _))))))) (pss_one (ps_ret pe_bl)) pss_nil)
      (pss_cons (ps_if (pt_cmpR (op_neD hr.units)
          (pe_lc (own := [("_law_pair", 3)]) (g := gName 3) (tt := tYes) rfl scH.nd (pi_own (Pi := PiM C) (pv 0) mt Ft scT bt hr1 (fun cdv A outer s H a l Q _ hp hq => iter_body T B cdv A outer s H a l Q hp hq)) (blkOk_by (own := [("_law_pair", 3)]) (N := nH) (sc := defScope sHolds) (by decide +kernel))
            (fun _ _ _ _ _ => pg_name (i := 3) scH.nd rfl (Or.inl rfl)) (fun _ _ _ _ _ => pts_nil) (fun _ _ _ _ _ => pv 3))
          (pe_lc (own := [("_law_net", 4)]) (g := gName 4) (tt := tYes) rfl scH.nd (pi_list (pe_callB cr_sortedS (by rfl) B.sorted (by decide +kernel) (pa_cons (pe_lock (pe_lc (own := [("_law_net", 4)]) (g := gName 4) (tt := tYes) rfl scH.nd (pi_keys (pv 1)) (blkOk_by (own := [("_law_net", 4)]) (N := nH) (sc := defScope sHolds) (by decide +kernel))
              (fun _ _ _ _ _ => pg_name (i := 4) scH.nd rfl (Or.inl rfl)) (fun _ _ _ _ _ => pts_nil) (fun _ _ _ _ _ => pe_callTy SkE.call_str_str (by rfl) B.str (by decide +kernel) (pa_cons (pv 4) pa_nil)))) pa_nil)))
            (blkOk_by (own := [("_law_net", 4)]) (N := nH) (sc := defScope sHolds) (by decide +kernel))
            (fun _ _ _ _ _ => pg_name (i := 4) scH.nd rfl (Or.inl rfl)) (fun _ _ _ _ _ => pts_nil) (fun _ _ _ _ _ => pe_tup (pa_cons (pv 4) (pa_cons (pe_dget hu (pv 1) (pv 4) (fun _ _ => rfl)) pa_nil)))) (nomark _)) (pss_one (ps_ret pe_bl)) pss_nil)
      (pss_cons (ps_if (pt_not (pt_val (pe_callB (cr_all rfl) (by rfl) B.all (by decide +kernel) (pa_cons (pe_lock (pe_lc (own := [("_law_net", 4)]) (g := gName 4) (tt := tYes) rfl scH.nd (pi_keys (pv 1)) (blkOk_by (own := [("_law_net", 4)]) (N := nH) (sc := defScope sHolds) (by decide +kernel))
            (fun _ _ _ _ _ => pg_name (i := 4) scH.nd rfl (Or.inl rfl)) (fun _ _ _ _ _ => pts_nil) (fun _ _ _ _ _ => pe_cmpR op_eq (pe_callI (pv 0) cc Gc hr1 pass0 (pa_cons (pv 4) pa_nil)) (pe_dget hu (pv 1) (pv 4) (fun _ _ => rfl)) (nomark _)))) pa_nil)))) (pss_one (ps_ret pe_bl)) pss_nil)
      (pss_one (ps_ret (pe_callB (cr_all rfl) (by rfl) B.all (by decide +kernel) (pa_cons (pe_lock (pe_lc (own := [("_law_name", 5)]) (g := gName 5) (tt := tYes) rfl scH.nd (pi_keys (pv 2)) (blkOk_by (own := [("_law_name", 5)]) (N := nH) (sc := defScope sHolds) (by decide +kernel))
            (fun _ _ _ _ _ => pg_name (i := 5) scH.nd rfl (Or.inl rfl)) (fun _ _ _ _ _ => pts_nil) (fun _ _ _ _ _ => pe_cmpR op_eq (pe_meth (pv 0) T.cl mo Go hr1 bo .nil pass0 (pa_cons (pv 5) pa_nil)) (pe_dget hu (pv 2) (pv 5) (fun _ _ => rfl)) (nomark _)))) pa_nil)))))), ?_⟩
    obtain ⟨dx, d1, d2, l, ts, h1, h2, h3, h4, h5⟩ := M.ex
    have g1 := M.g1
    have g2 := M.g2
    have len1 : m1.length < 64 := g1.2.2
    have len2 : m2.length < 64 := g2.2.2
    refine ⟨_, rfl, p, dx, _, rfl, h1, _, rfl, iteF ?_⟩
    -- told.net_map() != nets
    refine ⟨_, rfl, p, dx, _, rfl, h1, flds_no _ _ _ (by decide +kernel) (by decide +kernel) (by decide +kernel), p, m1, m2, rfl, M, fun x1 hx1 => ?_⟩
    generalize e1 : upd H x1 (.dK (dS m1)) = H1
    have s1 : Same H H1 := by rw [← e1]; exact Same.put hx1
    refine ⟨_, rfl, x1, a, m1, m1, rfl, rfl, by rw [← e1]; exact upd_same, s1 _ _ ha, _, rfl, ?_⟩
    rw [dEq_refl g1]
    refine iteF ?_
    -- told.id_map() != ids
    refine ⟨_, rfl, p, dx, _, rfl, s1 _ _ h1, flds_no _ _ _ (by decide +kernel) (by decide +kernel) (by decide +kernel), p, m1, m2, rfl, M.same s1, fun x2 hx2 => ?_⟩
    generalize e2 : upd H1 x2 (.dK (dS m2)) = H2
    have s2 : Same H H2 := by rw [← e2]; exact Same.new s1 hx2
    refine ⟨_, rfl, x2, b, m2, m2, rfl, rfl, by rw [← e2]; exact upd_same, s2 _ _ hb, _, rfl, ?_⟩
    rw [dEq_refl g2]
    refine iteF ?_
    -- len(told) != len(nets)
    refine ⟨_, rfl, p, dx, _, rfl, s2 _ _ h1, p, m1, m2, rfl, M.same s2, _, rfl, by omega, by omega, _, rfl, a, _, rfl, s2 _ _ ha, rfl, _, rfl, ?_⟩
    rw [show (!decide (V.int (m1.length : Int) = V.int ((dS m1).length : Int))) = false by rw [dS_length]; simp]
    refine iteF ?_
    -- [pair for pair in told]
    have h4' := s2 _ _ h4
    refine ⟨_, rfl, p, l, dx, _, rfl, s2 _ _ h1, ⟨dx, d1, d2, _, s2 _ _ h1, h4'⟩, fun D hD => ?_⟩
    have hlD : l ≠ D := ne_of_none h4' hD
    have lts : ts.length = m1.length := by rw [h5.length, pairsOf_length]
    refine lcM (walk_listF (K := K) (a := l) (xs := ts.map V.ref)) (ts.map V.ref) rfl (by rw [List.length_map]; omega) (fun acc => SqL.of (by rw [upd_ne hlD]; exact h4')) (fun i x y acc H' hy hY => ?_) ?_
    · obtain ⟨rfl, hx⟩ := hY
      rw [hx] at hy
      cases hy
      exact ⟨rfl, fun R hR => ⟨rfl, _, rfl, hR⟩⟩
    generalize e3 : upd H2 D (.lst (ts.map V.ref)) = H3
    have s3 : Same H H3 := by rw [← e3]; exact Same.new s2 hD
    have eD3 : H3 D = some (.lst (ts.map V.ref)) := by rw [← e3]; exact upd_same
    -- sorted([str(net) for net in nets])
    refine ⟨a, _, s3 _ _ ha, trivial, fun od => ?_⟩
    refine ⟨_, rfl, a, od, rfl, .inl ⟨dS m1, upd_same, fun D2 hD2 => ?_⟩⟩
    have hDa : D2 ≠ a := fun z => by rw [z, upd_same] at hD2; cases hD2
    have hD2' : H3 D2 = none := by rw [upd_ne hDa] at hD2; exact hD2
    refine lcM (walk_keys (d := a) (o := od) (kvs := dS m1)) ((m1.map (·.1)).map V.str) (by simp [dS_length]) (by rw [dS_length]; omega) (fun acc => by rw [upd_ne (Ne.symm hDa), upd_same]) (fun i x y acc H' hy hY => ?_) ?_
    · obtain ⟨rfl, kk, v, e, rfl⟩ := hY
      obtain ⟨y1, z1, hab, rfl, rfl⟩ := getD e
      rw [List.getElem?_map, List.getElem?_map, hab] at hy
      cases hy
      exact ⟨rfl, fun R hR => ⟨rfl, _, rfl, _, rfl, hR⟩⟩
    refine ⟨by rw [upd_ne (Ne.symm hDa), upd_same], ?_⟩
    rw [lock_back (s3 _ _ ha) hDa]
    refine ⟨D2, m1.map (·.1), rfl, SqL.of upd_same, by simpa using len1, fun ys q hp hs hq => ?_⟩
    rw [sortS_of hp hs]
    generalize e4 : upd (upd H3 D2 (.lst ((m1.map (·.1)).map V.str))) q (.lst ((sortS (m1.map (·.1))).map V.str)) = H4
    have s34 : Same H3 H4 := by rw [← e4]; exact Same.new (Same.put hD2') hq
    have s4 : Same H H4 := s3.trans s34
    have eq4 : H4 q = some (.lst ((sortS (m1.map (·.1))).map V.str)) := by rw [← e4]; exact upd_same
    -- [(net, nets[net]) for net in ..]
    refine ⟨q, rfl, ⟨_, SqL.of eq4⟩, fun D3 hD3 => ?_⟩
    refine lcP (walk_list (K := K) (a := q) (xs := (sortS (m1.map (·.1))).map V.str)) (vv (pairsOf m1)) (by simp [vv, pairsOf]) (by simp [sortS_length]; omega) hD3 (fun H6 s6 => SqL.of (s6 _ _ eq4)) (fun i x pr H6 H7 hpr s6 hY => ?_) (fun H5 us s5 hD5 hus _ => ?_)
    · obtain ⟨rfl, hx⟩ := hY
      obtain ⟨z, hz, rfl⟩ := getS hx
      have hk : z ∈ keys m1 := (sortS_perm _).mem_iff.mp (List.mem_of_getElem? hz)
      have hpr' : pr = (V.str z, V.str (img m1 z)) := by
        unfold vv pairsOf at hpr
        rw [List.getElem?_map, List.getElem?_map, hz] at hpr
        exact (Option.some.inj hpr).symm
      subst hpr'
      exact ⟨rfl, fun R hR => ⟨rfl, _, rfl, _, rfl, _, rfl, a, _, rfl, dget_S (s6 _ _ (s4 _ _ ha)) (lookup_img hk), by show 2 ≤ sizeLine; decide, fun t ht => hR t ht⟩⟩
    have s05 : Same H H5 := s4.trans s5
    have okp := pairsOf_ok g1 ok
    refine ⟨dPairs (pairsOf m1), dPairs (pairsOf m1), .lst (SqL.of (s5 _ _ (s34 _ _ eD3))) (dp_pairs (h5.same s05)), .lst (SqL.of hD5) (dp_pairs hus), shaped_pairs okp, shaped_pairs okp, _, rfl, ?_⟩
    rw [eqv_pairs okp]
    refine iteF ?_
    -- all told(net) == nets[net]
    refine ⟨a, _, s05 _ _ ha, trivial, fun od2 => ?_⟩
    refine ⟨_, rfl, a, od2, rfl, .inl ⟨dS m1, upd_same, fun D4 hD4 => ?_⟩⟩
    have hDa4 : D4 ≠ a := fun z => by rw [z, upd_same] at hD4; cases hD4
    have hD4' : H5 D4 = none := by rw [upd_ne hDa4] at hD4; exact hD4
    have al1 : (m1.map fun _ => true).all id = true := by simp
    have al2 : (m2.map fun _ => true).all id = true := by simp
    have M5 := M.same s05
    refine lcM (walk_keys (d := a) (o := od2) (kvs := dS m1)) ((m1.map fun _ => true).map V.bl) (by simp [dS_length]) (by rw [dS_length]; omega) (fun acc => by rw [upd_ne (Ne.symm hDa4), upd_same]) (fun i x y acc H' hy hY => ?_) ?_
    · obtain ⟨rfl, kk, v, e, rfl⟩ := hY
      obtain ⟨y1, z1, hab, rfl, rfl⟩ := getD e
      rw [List.getElem?_map, List.getElem?_map, hab] at hy
      cases hy
      have lk : m1.lookup y1 = some z1 := lookup_of g1.1 (List.mem_of_getElem? hab)
      have MR := M5.frz (od := od2) (x := .lst acc) (s05 _ _ ha) hD4'
      obtain ⟨dx', _, _, _, hh, _⟩ := id MR
      refine ⟨rfl, fun R hR => ⟨rfl, _, rfl, p, rfl, _, rfl, ⟨dx', _, hh⟩, p, m1, m2, y1, z1, rfl, MR, lk, _, rfl, _, rfl, a, _, rfl, dget_R (rd_frz (s05 _ _ ha) (s05 _ _ ha) hD4') lk, rfl, ?_⟩⟩
      rw [decide_eq_true rfl]
      exact hR
    refine ⟨by rw [upd_ne (Ne.symm hDa4), upd_same], ?_⟩
    rw [lock_back (s05 _ _ ha) hDa4]
    refine ⟨D4, _, rfl, SqL.of upd_same, _, rfl, ?_⟩
    rw [al1]
    refine iteF ?_
    generalize e6 : upd H5 D4 (.lst ((m1.map fun _ => true).map V.bl)) = H6
    have s6 : Same H H6 := by rw [← e6]; exact Same.new s05 hD4'
    -- all told.id_of(name) == ids[name]
    refine ⟨b, _, s6 _ _ hb, trivial, fun od3 => ?_⟩
    refine ⟨_, rfl, b, od3, rfl, .inl ⟨dS m2, upd_same, fun D5 hD6 => ?_⟩⟩
    have hDb : D5 ≠ b := fun z => by rw [z, upd_same] at hD6; cases hD6
    have hD6' : H6 D5 = none := by rw [upd_ne hDb] at hD6; exact hD6
    have M6 := M.same s6
    refine lcM (walk_keys (d := b) (o := od3) (kvs := dS m2)) ((m2.map fun _ => true).map V.bl) (by simp [dS_length]) (by rw [dS_length]; omega) (fun acc => by rw [upd_ne (Ne.symm hDb), upd_same]) (fun i x y acc H' hy hY => ?_) ?_
    · obtain ⟨rfl, kk, v, e, rfl⟩ := hY
      obtain ⟨y1, z1, hab, rfl, rfl⟩ := getD e
      rw [List.getElem?_map, List.getElem?_map, hab] at hy
      cases hy
      have lk : m2.lookup y1 = some z1 := lookup_of g2.1 (List.mem_of_getElem? hab)
      have MR := M6.frz (od := od3) (x := .lst acc) (s6 _ _ hb) hD6'
      obtain ⟨dx', _, _, _, hh, _⟩ := id MR
      refine ⟨rfl, fun R hR => ⟨rfl, _, rfl, p, dx', _, rfl, hh, flds_no _ _ _ (by decide +kernel) (by decide +kernel) (by decide +kernel), _, rfl, p, m1, m2, y1, z1, rfl, MR, lk, _, rfl, _, rfl, b, _, rfl, dget_R (rd_frz (s6 _ _ hb) (s6 _ _ hb) hD6') lk, rfl, ?_⟩⟩
      rw [decide_eq_true rfl]
      exact hR
    refine ⟨by rw [upd_ne (Ne.symm hDb), upd_same], ?_⟩
    rw [lock_back (s6 _ _ hb) hDb]
    refine ⟨D5, _, rfl, SqL.of upd_same, ?_⟩
    rw [al2]
    exact k _ (Same.new s6 hD6')
end
end WW
namespace WW
open PySem PySem.Spec PyProof.Rows L2
/-- a list of n names of the letter l at q -/
structure NL (S : Addr) (H : Hp) (q : Addr) (l : Str) (n : Nat) (xs : List Str) : Prop where
  at_ : H q = some (.lst (xs.map V.str))
  nm : NamesOf l xs
  len : xs.length = n
  ne : q ≠ S
theorem NL.sb {S : Addr} {H H' : Hp} {q : Addr} {l : Str} {n : Nat} {xs : List Str} (h : NL S H q l n xs) (s : SameBut S H H') : NL S H' q l n xs := ⟨s _ _ h.at_ h.ne, h.nm, h.len, h.ne⟩
theorem paired_app {α β : Type} {R : α → β → Prop} {xs : List α} {ys : List β} {us : List α} {vs : List β} (h : Paired R xs ys) (h2 : Paired R us vs) : Paired R (xs ++ us) (ys ++ vs) := by
  induction h with
  | nil => exact h2
  | cons a _ ih => exact .cons a ih
theorem gN {i : Nat} {v : V} {σ : L2.St} {H : Hp} {Q : L2.St → Hp → Prop} (h : Q (σ.set i (some v)) H) : gName i v σ H Q := h
theorem sA {te : TE} {g : TG} {u : TS} {D : Ends} {σ : L2.St} {H : Hp} (h : te σ H fun x H1 => g x σ H1 (u D)) : tSeq (tAsg te g) u D σ H := h
def letters : List Str := ["a", "b", "c"]
theorem names3 {K : PySem.W.Frag} {H : Hp} {a S L Z : Addr} {d1 d2 k : Int} {n : Nat} {x3 : Option V} {Q : VK} (hk : atI [V.int d1, V.int d2] k = some (.int (n : Int))) (hn : n ≤ 7) (ST : StAt H S L) (hZ : H Z = some (.lst [.int d1, .int d2])) (hZS : Z ≠ S)
    (hQ : ∀ D H' q0 q1 q2 xs0 xs1 xs2, StAt H' S L → SameBut S H H' → H D = none → D ≠ S → H' D = some (.lst [.ref q0, .ref q1, .ref q2]) → NL S H' q0 "a" n xs0 → NL S H' q1 "b" n xs1 → NL S H' q2 "c" n xs2 → Q (.ref D) H') :
    tLc (iList K (tLst (tCons (tC (.str "a")) (tCons (tC (.str "b")) (tCons (tC (.str "c")) tNil))))) (gName 4) tYes (tCall spNames [] E0 (tCons (tVar 1) (tCons (tOp (rIxL K) (tVar 2) (tC (.int k))) (tCons (tVar 4) tNil)))) [4]
      [some (.ref a), some (.ref S), some (.ref Z), x3, none, none, none, none, none, none, none, none, none] H Q := by
  refine ⟨by show 3 ≤ sizeLine; decide, fun l0 hl0 => ?_⟩
  generalize e0 : upd H l0 (.lst [V.str "a", V.str "b", V.str "c"]) = H0
  have s0 : Same H H0 := by rw [← e0]; exact Same.put hl0
  have hl : H0 l0 = some (.lst (letters.map V.str)) := by rw [← e0]; exact upd_same
  obtain ⟨⟨i0, r0, z0, hS0, _⟩, ⟨zs0, hL0⟩, ne0⟩ := id (ST.same s0)
  have hlS : l0 ≠ S := ne_of hl hS0 (by
    intro z
    have := HO.lst.inj z
    simp [letters] at this)
  refine ⟨l0, rfl, ⟨_, SqL.of hl⟩, fun D hD => ?_⟩
  have hDS : D ≠ S := fun z => by rw [z, hS0] at hD; cases hD
  have hDL : D ≠ L := fun z => by rw [z, hL0] at hD; cases hD
  have hDl : l0 ≠ D := ne_of_none hl hD
  refine lc_it (walk_list (K := K) (a := l0) (xs := letters.map V.str)) (fun i H' => ∃ (qs : List Addr) (ls : List (Str × List Str)), StAt H' S L ∧ SameBut S H0 H' ∧ H' D = some (.lst (qs.map V.ref)) ∧ Paired (fun q (p : Str × List Str) => NL S H' q p.1 n p.2) qs ls ∧ ls.map (·.1) = letters.take i) ?_ ?_ ?_ ?_
  · exact ⟨[], [], (ST.same s0).put hD, .of (Same.put hD), upd_same, .nil, rfl⟩
  · rintro i H1 hi ⟨_, _, _, sb, _⟩
    exact SqL.of (sb _ _ hl hlS)
  · rintro i x H1 H1' hi ⟨qs, ls, S1, sb, eD, pr, el⟩ ⟨rfl, hx⟩
    obtain ⟨lt, hlt, rfl⟩ := getS hx
    refine ⟨rfl, ?_⟩
    unfold tYes
    refine iteT ?_
    have l1 : lt.length = 1 := by
      have hm := List.mem_of_getElem? hlt
      simp only [letters, List.mem_cons, List.not_mem_nil, or_false] at hm
      rcases hm with rfl | rfl | rfl <;> decide +kernel
    refine ⟨_, rfl, _, rfl, Z, _, _, _, rfl, rfl, SqL.of (sb _ _ (s0 _ _ hZ) hZS), hk, _, rfl, S, L, n, lt, rfl, S1, hn, l1, fun q H2 ns S2 sb2 hq hqS eq hnm hlen => ?_⟩
    have eD2 : H2 D = some (.lst (qs.map V.ref)) := sb2 _ _ eD hDS
    have lq : qs.length = i := by
      rw [Paired.length pr]
      have := congrArg List.length el
      rw [List.length_map, List.length_take] at this
      have h3 : letters.length = 3 := rfl
      rw [List.length_map, h3] at hi
      omega
    have hqD : D ≠ q := ne_of_none eD hq
    have sbD : SameBut S H1' (upd H2 D (.lst (qs.map V.ref ++ [V.ref q]))) → True := fun _ => trivial
    have kp : ∀ {c : Addr} {l' : Str} {xs : List Str}, NL S H1' c l' n xs → NL S (upd H2 D (.lst (qs.map V.ref ++ [V.ref q]))) c l' n xs ∨ c = D := fun {c l' xs} h => by
      by_cases hc : c = D
      · exact .inr hc
      · exact .inl ⟨by rw [upd_ne hc]; exact sb2 _ _ h.at_ h.ne, h.nm, h.len, h.ne⟩
    have hi3 : i < 3 := by
      have h3 : letters.length = 3 := rfl
      rw [List.length_map, h3] at hi
      exact hi
    refine ⟨_, eD2, small1000 (by rw [List.length_map]; omega), qs ++ [q], ls ++ [(lt, ns)], S2.off eD2 hDS hDL, ?_, by rw [upd_same]; simp, ?_, ?_⟩
    · intro c o e nc
      rw [upd_ne (ne_of_none e hD)]
      exact sb2 _ _ (sb _ _ e nc) nc
    · have noD : ∀ {c : Addr} {xs : List Str}, H1' c = some (.lst (xs.map V.str)) → qs ≠ [] ∨ xs ≠ [] → c ≠ D := fun {c xs} h ho z => by
        rw [z, eD] at h
        have h2 := HO.lst.inj (Option.some.inj h)
        cases qs with
        | nil =>
          cases xs with
          | nil => rcases ho with ho | ho <;> exact ho rfl
          | cons _ _ => cases h2
        | cons _ _ =>
          cases xs with
          | nil => cases h2
          | cons _ _ => cases h2
      have step : ∀ {us : List Addr} {vs : List (Str × List Str)}, Paired (fun q (p : Str × List Str) => NL S H1' q p.1 n p.2) us vs → (us ≠ [] → qs ≠ []) → Paired (fun q' (p : Str × List Str) => NL S (upd H2 D (.lst (qs.map V.ref ++ [V.ref q]))) q' p.1 n p.2) us vs := by
        intro us vs h
        induction h with
        | nil => exact fun _ => .nil
        | @cons c p us vs h1 t ih =>
          intro hne
          refine .cons ?_ (ih fun _ => hne (by simp))
          rcases kp h1 with h | h
          · exact h
          · exact absurd h (noD h1.at_ (.inl (hne (by simp))))
      have st := step pr (fun h => h)
      have lastNL : NL S (upd H2 D (.lst (qs.map V.ref ++ [V.ref q]))) q lt n ns := ⟨by rw [upd_ne (Ne.symm hqD)]; exact eq, hnm, hlen, hqS⟩
      exact paired_app st (.cons lastNL .nil)
    · rw [List.map_append, el, take_succ' hlt]
      rfl
  · rintro H1 ⟨qs, ls, S1, sb, eD, pr, el⟩
    have e3 : ls.map (·.1) = letters := el
    match ls, qs, pr, e3 with
    | [(_, xs0), (_, xs1), (_, xs2)], [q0, q1, q2], .cons n0 (.cons n1 (.cons n2 .nil)), e3 =>
      simp only [letters, List.map_cons, List.map_nil, List.cons.injEq, and_true] at e3
      obtain ⟨rfl, rfl, rfl⟩ := e3
      exact hQ D H1 q0 q1 q2 xs0 xs1 xs2 S1 (SameBut.trans (.of s0) sb) (s0.free hD) hDS eD n0 n1 n2
end WW
namespace WW
open PySem PySem.Spec PyProof.Rows L2
theorem num_ok : ∀ j < 49, PyData.strOk (num j) = true := by decide +kernel
theorem strOk_app {x y : Str} (h1 : PyData.strOk x = true) (h2 : PyData.strOk y = true) : PyData.strOk (x ++ y) = true := by
  show (x.cps ++ y.cps).all _ = true
  rw [Array.all_append]
  unfold PyData.strOk at h1 h2
  rw [h1, h2]
  rfl
theorem NamesOf.ok {l : Str} {ns : List Str} (h : NamesOf l ns) (hl : PyData.strOk l = true) {x : Str} (hx : x ∈ ns) : PyData.strOk x = true := by
  obtain ⟨j, hj, rfl⟩ := h.mem hx
  exact strOk_app hl (num_ok j hj)
theorem names_apart {c d : Nat} (h : c ≠ d) {xs ys : List Str} (hx : NamesOf ⟨#[c]⟩ xs) (hy : NamesOf ⟨#[d]⟩ ys) {x y : Str} (h1 : x ∈ xs) (h2 : y ∈ ys) : x ≠ y := by
  obtain ⟨i, _, rfl⟩ := hx.mem h1
  obtain ⟨j, _, rfl⟩ := hy.mem h2
  exact nm_ne h i j
theorem okS_of {m : SM} (h1 : ∀ x ∈ keys m, PyData.strOk x = true) (h2 : ∀ x ∈ vals m, PyData.strOk x = true) : OkS m := fun p hp => ⟨h1 _ (List.mem_map.mpr ⟨p, hp, rfl⟩), h2 _ (List.mem_map.mpr ⟨p, hp, rfl⟩)⟩
theorem idB_apart {m : SM} {xs : List Str} (hk : keys m = xs) (h : ∀ x ∈ keys m, ∀ y ∈ vals m, x ≠ y) : idB m = decide (xs = []) := by
  subst hk
  cases m with
  | nil => rfl
  | cons p r =>
    have : p.2 ≠ p.1 := fun z => h p.1 (List.mem_cons_self) p.2 (List.mem_cons_self) z.symm
    have e : idB (p :: r) = false := by
      unfold idB
      rw [List.all_cons, decide_eq_false this]
      rfl
    rw [e]
    symm
    exact decide_eq_false (by simp [keys])
theorem dEq_apart {m n : SM} (hl : m ≠ []) (g : Gd n) (hk : keys m = keys n) (h : ∀ x ∈ vals m, ∀ y ∈ vals n, x ≠ y) : dEq m n = false := by
  cases m with
  | nil => exact absurd rfl hl
  | cons p r =>
    cases e : dEq (p :: r) n with
    | false => rfl
    | true =>
      have := (dEq_iff.mp e).2 p List.mem_cons_self
      have hm := mem_of_lookup this
      exact absurd rfl (h p.2 List.mem_cons_self p.2 (List.mem_map.mpr ⟨_, hm, rfl⟩))
theorem dpAll_S {K : PySem.W.Frag} {H : Hp} : ∀ xs : List Str, DpAll K H (xs.map V.str) (xs.map PyData.str)
  | [] => .nil
  | x :: xs => .cons (.str x) (dpAll_S xs)
theorem shaped_S {xs : List Str} (h : ∀ x ∈ xs, PyData.strOk x = true) : SeqAt.shaped (PyData.list (xs.map PyData.str)) = true := by
  have d : ∀ xs : List Str, PyData.depthAll (xs.map PyData.str) = 0 := fun xs => by
    induction xs with
    | nil => simp [PyData.depthAll]
    | cons x xs ih => rw [List.map_cons, PyData.depthAll, ih]; simp [PyData.depth]
  have l : ∀ xs : List Str, (∀ x ∈ xs, PyData.strOk x = true) → PyData.canLayAll0 (xs.map PyData.str) = true := fun xs => by
    induction xs with
    | nil => intro _; simp [PyData.canLayAll0]
    | cons x xs ih =>
      intro h
      rw [List.map_cons, PyData.canLayAll0, ih fun y hy => h y (List.mem_cons_of_mem _ hy)]
      simp [PyData.canLay0, h x List.mem_cons_self]
  unfold SeqAt.shaped
  rw [Bool.and_eq_true]
  refine ⟨by rw [PyData.canLay0]; exact l xs h, decide_eq_true ?_⟩
  rw [PyData.depth, d]
  omega
theorem eqv_nil (xs : List Str) : PyData.eqv (PyData.list (xs.map PyData.str)) (PyData.list []) = decide (xs = []) := by
  cases xs with
  | nil => decide +kernel
  | cons x xs => simp [PyData.eqv, PyData.eqvAll]
theorem vals_id {m : SM} (h : ∀ p ∈ m, p.1 = p.2) : vals m = keys m := by
  unfold vals keys
  exact List.map_congr_left fun p hp => (h p hp).symm
end WW
namespace WW
open PySem PySem.Spec PyProof.Rows L2
def spLaw (K : PySem.W.Frag) : Sp := fun vs H Q _ => ∃ (a : Addr) (zs : List Int), vs = [.ref a] ∧ SqL K H a (zs.map V.int) ∧ ∀ H', Q (.bl true) H'
/-- a def of the module: where it stands, its promise -/
structure FnAt (P : Program) (w : World) (K : PySem.W.Frag) (mg : Str → Option Value) (base : Heap) (k : Nat) (x : Str) (ps : List Str) (sp : Sp) : Prop where
  ex : ∃ f fd, mg x = some (.ref f) ∧ PySem.W.keepIn K (.ref f) = true ∧ FnOk P w K mg base CX0 k f fd ps sp ∧ L2.Binds K fd ps []
/-- a method -/
structure MtAt (P : Program) (w : World) (K : PySem.W.Frag) (mg : Str → Option Value) (base : Heap) (C : Addr) (k : Nat) (m : Str) (ps : List Str) (sp : Sp) : Prop where
  ex : ∃ f fd, Meth K C m f ∧ FnOk P w K mg base CX0 k f fd ps sp ∧ L2.Binds K fd ps []
abbrev nL : List Str := ["_law_script", "_law_state", "_law_sizes", "_law_nets", "_law_letter", "_law_ids", "_law_rows", "_law_more", "_law_given", "_law_one", "_law_other", "_law_told", "_law_same"]
section
variable {P : Program} {w : World} {K : PySem.W.Frag} {mg : Str → Option Value} {base : Heap} {f C : Addr} {fd : FuncData}
theorem scW : FnScope nL ["_law_script"] (defScope sLaw) := ⟨rfl, rfl, rfl, by decide +kernel, rfl, by decide +kernel, by decide +kernel⟩
theorem ok_law {fE fdE fX fdX pX fN} (F : Fun K "law" "law" sLaw f fd) (T : MTxt K mg C) (B : Blt mg) (hSF : PySem.W.selfFirst K C = true)
    (g1 : FnAt P w K mg base 1 "_law_start" ["_law_script"] (spStart K)) (g2 : FnAt P w K mg base 1 "_law_draw" ["_law_state", "_law_many"] spDraw) (g3 : FnAt P w K mg base 2 "_law_names" ["_law_state", "_law_many", "_law_letter"] spNames)
    (g4 : FnAt P w K mg base 2 "_law_map" ["_law_state", "_law_names_here", "_law_targets"] spMap) (g5 : FnAt P w K mg base 1 "_law_then" ["_law_images", "_law_later"] spThen) (g6 : FnAt P w K mg base 1 "_law_back" ["_law_images"] spBack)
    (g7 : FnAt P w K mg base 4 "_law_holds" ["_law_told", "_law_nets", "_law_ids"] (spHolds C)) (m1 : MtAt P w K mg base C 5 "__mul__" ["self", "other"] (spMul C)) (m2 : MtAt P w K mg base C 5 "__invert__" ["self"] (spInv C))
    (m3 : MtAt P w K mg base C 1 "net_map" ["self"] (spNetMap C)) (m4 : MtAt P w K mg base C 1 "id_map" ["self"] (spIdMap C)) (e1 : EqTxt K C fE) (GM : FnOk P w K mg base CX0 1 fE fdE ["self", "other"] (spEqM C)) (GD : FnOk P w K mg base CX0 1 fE fdE ["self", "other"] (spEqD C)) (bE : L2.Binds K fdE ["self", "other"] [])
    (hX : PropOf K C "is_identity" pX fX) (GX : FnOk P w K mg base CX0 1 fX fdX ["self"] (spIsId C)) (bX : L2.Binds K fdX ["self"] []) (MK : Mk K C fN) (gN : ∃ fdN, FnOk P w K mg base CX0 3 fN fdN ["self", "nets", "ids"] (spInit C) ∧ L2.Binds K fdN ["self", "nets", "ids"] [])
    (kDC : PySem.W.notFirst K C (.type "dict") = true) : FnOk P w K mg base CX0 8 f fd ["_law_script"] (spLaw K) := by
  obtain ⟨f1, fd1, mg1, kp1, G1, b1⟩ := g1.ex
  obtain ⟨f2, fd2, mg2, kp2, G2, b2⟩ := g2.ex
  obtain ⟨f3, fd3, mg3, kp3, G3, b3⟩ := g3.ex
  obtain ⟨f4, fd4, mg4, kp4, G4, b4⟩ := g4.ex
  obtain ⟨f5, fd5, mg5, kp5, G5, b5⟩ := g5.ex
  obtain ⟨f6, fd6, mg6, kp6, G6, b6⟩ := g6.ex
  obtain ⟨f7, fd7, mg7, kp7, G7, b7⟩ := g7.ex
  obtain ⟨u1, ud1, um1, U1, ub1⟩ := m1.ex
  obtain ⟨u2, ud2, um2, U2, ub2⟩ := m2.ex
  obtain ⟨u3, ud3, um3, U3, ub3⟩ := m3.ex
  obtain ⟨u4, ud4, um4, U4, ub4⟩ := m4.ex
  obtain ⟨fdN, GN, bN⟩ := gN
  refine F.ok scW (fun vs H Q E h => ?_) (fun cdv A outer s H vs Q E hr h => ?_)
  · obtain ⟨a, zs, rfl, _⟩ := h
    rfl
  · obtain ⟨a, zs, rfl, hS, k⟩ := h
    have hu := hu_of hr
    have hu0 : _ < _ := hr.units0
    have r1 : Room 1 _ := hr.mono (by decide)
    have r2 : Room 2 _ := hr.mono (by decide)
    have r4 : Room 4 _ := hr.mono (by decide)
    have r5 : Room 5 _ := hr.mono (by decide)
    refine ⟨_, (pss_cons (ps_set (i := 1) scW.nd rfl (Or.inr rfl) (pe_call G1 r1 (by rfl) mg1 kp1 b1 .nil pass0 (pa_cons (pv 0) pa_nil)))
      (pss_cons (ps_set (i := 2) scW.nd rfl (Or.inr rfl) (pe_lst (pa_cons (pe_call G2 r1 (by rfl) mg2 kp2 b2 .nil pass0 (pa_cons (pv 1) (pa_cons pe_int pa_nil))) (pa_cons (pe_call G2 r1 (by rfl) mg2 kp2 b2 .nil pass0 (pa_cons (pv 1) (pa_cons pe_int pa_nil))) pa_nil))))
      (pss_cons (ps_setLc (i := 3) (own := [("_law_letter", 4)]) (g := gName 4) (tt := tYes) (te := tCall spNames [] E0 (tCons (tVar 1) (tCons (tOp (rIxL K) (tVar 2) (tC (.int 0))) (tCons (tVar 4) tNil)))) rfl scW.nd rfl rfl (sw_true rfl rfl rfl (by decide +kernel)) (pi_list (pe_lst (pa_cons pe_str (pa_cons pe_str (pa_cons pe_str pa_nil))))) (blkOk_by (own := [("_law_letter", 4)]) (N := nL) (sc := defScope sLaw) (by decide +kernel))
        (fun _ _ _ _ _ => pg_name (i := 4) scW.nd rfl (Or.inl rfl)) (fun _ _ _ _ _ => pts_nil) (fun _ _ _ _ _ => (pe_call G3 r2 (by rfl) mg3 kp3 b3 .nil pass0 (pa_cons (pv 1) (pa_cons (pe_ix ix_list (pv 2) pe_int (fun _ _ => rfl)) (pa_cons (pv 4) pa_nil))))))
      (pss_cons (ps_setLc (i := 5) (own := [("_law_letter", 4)]) (g := gName 4) (tt := tYes) (te := tCall spNames [] E0 (tCons (tVar 1) (tCons (tOp (rIxL K) (tVar 2) (tC (.int 1))) (tCons (tVar 4) tNil)))) rfl scW.nd rfl rfl (sw_true rfl rfl rfl (by decide +kernel)) (pi_list (pe_lst (pa_cons pe_str (pa_cons pe_str (pa_cons pe_str pa_nil))))) (blkOk_by (own := [("_law_letter", 4)]) (N := nL) (sc := defScope sLaw) (by decide +kernel))
        (fun _ _ _ _ _ => pg_name (i := 4) scW.nd rfl (Or.inl rfl)) (fun _ _ _ _ _ => pts_nil) (fun _ _ _ _ _ => (pe_call G3 r2 (by rfl) mg3 kp3 b3 .nil pass0 (pa_cons (pv 1) (pa_cons (pe_ix ix_list (pv 2) pe_int (fun _ _ => rfl)) (pa_cons (pv 4) pa_nil))))))
      (pss_cons (ps_set (i := 6) scW.nd rfl (Or.inl rfl) (pe_lst (pa_cons (pe_call G4 r2 (by rfl) mg4 kp4 b4 .nil pass0 (pa_cons (pv 1) (pa_cons (pe_ix ix_list (pv 3) pe_int (fun _ _ => rfl)) (pa_cons (pe_ix ix_list (pv 3) pe_int (fun _ _ => rfl)) pa_nil)))) (pa_cons (pe_call G4 r2 (by rfl) mg4 kp4 b4 .nil pass0 (pa_cons (pv 1) (pa_cons (pe_ix ix_list (pv 5) pe_int (fun _ _ => rfl)) (pa_cons (pe_ix ix_list (pv 5) pe_int (fun _ _ => rfl)) pa_nil)))) pa_nil))))
      (pss_cons (ps_set (i := 7) scW.nd rfl (Or.inl rfl) (pe_lst (pa_cons (pe_call G4 r2 (by rfl) mg4 kp4 b4 .nil pass0 (pa_cons (pv 1) (pa_cons (pe_ix ix_list (pv 3) pe_int (fun _ _ => rfl)) (pa_cons (pe_ix ix_list (pv 3) pe_int (fun _ _ => rfl)) pa_nil)))) (pa_cons (pe_call G4 r2 (by rfl) mg4 kp4 b4 .nil pass0 (pa_cons (pv 1) (pa_cons (pe_ix ix_list (pv 5) pe_int (fun _ _ => rfl)) (pa_cons (pe_ix ix_list (pv 5) pe_int (fun _ _ => rfl)) pa_nil)))) pa_nil))))
      (pss_cons (ps_set (i := 8) scW.nd rfl (Or.inl rfl) (pe_lst (pa_cons (pe_callTy call_dictD (by rfl) B.dict (by decide +kernel) (pa_cons (pe_ix ix_list (pv 6) pe_int (fun _ _ => rfl)) pa_nil)) (pa_cons (pe_callTy call_dictD (by rfl) B.dict (by decide +kernel) (pa_cons (pe_ix ix_list (pv 6) pe_int (fun _ _ => rfl)) pa_nil)) pa_nil))))
      (pss_cons (ps_set (i := 9) scW.nd rfl (Or.inl rfl) (pe_make MK GN r4 (by rfl) T.mgC bN .nil pass0 (pa_cons (pe_ix ix_list (pv 8) pe_int (fun _ _ => rfl)) (pa_cons (pe_ix ix_list (pv 8) pe_int (fun _ _ => rfl)) pa_nil))))
      (pss_cons (ps_set (i := 10) scW.nd rfl (Or.inl rfl) (pe_make MK GN r4 (by rfl) T.mgC bN .nil pass0 (pa_cons (pe_callTy call_dictD (by rfl) B.dict (by decide +kernel) (pa_cons (pe_ix ix_list (pv 7) pe_int (fun _ _ => rfl)) pa_nil)) (pa_cons (pe_callTy call_dictD (by rfl) B.dict (by decide +kernel) (pa_cons (pe_ix ix_list (pv 7) pe_int (fun _ _ => rfl)) pa_nil)) pa_nil))))
      (pss_cons (ps_expr (pe_bm0 PySem.F.plainAttrs_dict PySem.F.slot_dict_clear PySem.F.type_dict_clear mtd_clear (pe_ix ix_list (pv 8) pe_int (fun _ _ => rfl))))
      (pss_cons (ps_dput hu (pe_ix ix_list (pv 8) pe_int (fun _ _ => rfl)) pe_str pe_str rfl)
      (pss_cons (ps_set (i := 11) scW.nd rfl (Or.inl rfl) (pe_lst (pa_cons (pe_meth0 (pv 9) T.cl um3 U3 r1 ub3 .nil pass0) (pa_cons (pe_meth0 (pv 9) T.cl um4 U4 r1 ub4 .nil pass0) pa_nil))))
      (pss_cons (ps_expr (pe_bm0 PySem.F.plainAttrs_dict PySem.F.slot_dict_clear PySem.F.type_dict_clear mtd_clear (pe_ix ix_list (pv 11) pe_int (fun _ _ => rfl))))
      (pss_cons (ps_dput hu (pe_ix ix_list (pv 11) pe_int (fun _ _ => rfl)) pe_str pe_str rfl)
      (C8.pss_cut (ps_if (PW.pt (pw_or (pt_not (pt_val (pe_call G7 r4 (by rfl) mg7 kp7 b7 .nil pass0 (pa_cons (pv 9) (pa_cons (pe_ix ix_list (pv 6) pe_int (fun _ _ => rfl)) (pa_cons (pe_ix ix_list (pv 6) pe_int (fun _ _ => rfl)) pa_nil)))))) (pw_or1 (pt_not (pt_val (pe_call G7 r4 (by rfl) mg7 kp7 b7 .nil pass0 (pa_cons (pv 10) (pa_cons (pe_ix ix_list (pv 7) pe_int (fun _ _ => rfl)) (pa_cons (pe_ix ix_list (pv 7) pe_int (fun _ _ => rfl)) pa_nil))))))))) (pss_one (ps_ret pe_bl)) pss_nil)
      (C8.pss_cut (ps_if (pt_not (pt_val (pe_call G7 r4 (by rfl) mg7 kp7 b7 .nil pass0 (pa_cons (pe_op (op_own (op := .Mult) hSF um1 U1 r5 ub1 pass0) (pv 9) (pv 10)) (pa_cons (pe_call G5 r1 (by rfl) mg5 kp5 b5 .nil pass0 (pa_cons (pe_ix ix_list (pv 6) pe_int (fun _ _ => rfl)) (pa_cons (pe_ix ix_list (pv 7) pe_int (fun _ _ => rfl)) pa_nil))) (pa_cons (pe_call G5 r1 (by rfl) mg5 kp5 b5 .nil pass0 (pa_cons (pe_ix ix_list (pv 6) pe_int (fun _ _ => rfl)) (pa_cons (pe_ix ix_list (pv 7) pe_int (fun _ _ => rfl)) pa_nil))) pa_nil)))))) (pss_one (ps_ret pe_bl)) pss_nil)
      (C8.pss_cut (ps_if (pt_not (pt_val (pe_call G7 r4 (by rfl) mg7 kp7 b7 .nil pass0 (pa_cons (pe_un (un_own um2 U2 r5 ub2 pass0) (pv 9)) (pa_cons (pe_call G6 r1 (by rfl) mg6 kp6 b6 .nil pass0 (pa_cons (pe_ix ix_list (pv 6) pe_int (fun _ _ => rfl)) pa_nil)) (pa_cons (pe_call G6 r1 (by rfl) mg6 kp6 b6 .nil pass0 (pa_cons (pe_ix ix_list (pv 6) pe_int (fun _ _ => rfl)) pa_nil)) pa_nil)))))) (pss_one (ps_ret pe_bl)) pss_nil)
      (pss_cons (ps_set (i := 12) scW.nd rfl (Or.inl rfl) (pe_op (op_own (op := .Mult) hSF um1 U1 r5 ub1 pass0) (pv 9) (pe_un (un_own um2 U2 r5 ub2 pass0) (pv 9))))
      (C8.pss_cut (ps_if (PW.pt (pw_or (pt_cmpR op_notBl (pe_prop (pv 12) T.cl hX GX r2 bX .nil pass0 rfl) pe_bl (nomark _)) (pw_or1 (pt_cmpR op_ne (pe_prop (pv 9) T.cl hX GX r2 bX .nil pass0 rfl) (pe_and (pe_cmpR (op_eqSL hu0) (pe_ix ix_list (pv 3) pe_int (fun _ _ => rfl)) (pe_lst pa_nil) (nomark _)) (pe_one (pe_cmpR (op_eqSL hu0) (pe_ix ix_list (pv 5) pe_int (fun _ _ => rfl)) (pe_lst pa_nil) (nomark _)))) (nomark _))))) (pss_one (ps_ret pe_bl)) pss_nil)
      (C8.pss_cut (ps_if (PW.pt (pw_or (pt_cmpR (op_neO e1 GM r2 bE pass0) (pv 9) (pe_make MK GN r4 (by rfl) T.mgC bN .nil pass0 (pa_cons (pe_ix ix_list (pv 6) pe_int (fun _ _ => rfl)) (pa_cons (pe_ix ix_list (pv 6) pe_int (fun _ _ => rfl)) pa_nil))) (nomark _)) (pw_or (pt_cmpR (op_eqO e1 GD r1 bE pass0) (pv 9) (pe_ix ix_list (pv 6) pe_int (fun _ _ => rfl)) (nomark _)) (pw_or1 (pt_cmpR op_ne (pe_cmpR (op_eqO e1 GM r1 bE pass0) (pv 9) (pv 10) (nomark _)) (pe_cmpR (op_eqDS2 hu) (pv 6) (pv 7) (nomark _)) (nomark _)))))) (pss_one (ps_ret pe_bl)) pss_nil)
      (C8.pss_cut (ps_if (PW.pt (pw_and (pt_cmpR (op_neD hr.units) (pe_ix ix_list (pv 5) pe_int (fun _ _ => rfl)) (pe_lst pa_nil) (nomark _)) (pw_and1 (pt_cmpR (op_eqO e1 GM r1 bE pass0) (pv 9) (pe_make MK GN r4 (by rfl) T.mgC bN .nil pass0 (pa_cons (pe_ix ix_list (pv 6) pe_int (fun _ _ => rfl)) (pa_cons (pe_call G5 r1 (by rfl) mg5 kp5 b5 .nil pass0 (pa_cons (pe_ix ix_list (pv 6) pe_int (fun _ _ => rfl)) (pa_cons (pe_ix ix_list (pv 7) pe_int (fun _ _ => rfl)) pa_nil))) pa_nil))) (nomark _))))) (pss_one (ps_ret pe_bl)) pss_nil)
      (pss_one (ps_ret (pe_and (pe_call G7 r4 (by rfl) mg7 kp7 b7 .nil pass0 (pa_cons (pv 9) (pa_cons (pe_ix ix_list (pv 6) pe_int (fun _ _ => rfl)) (pa_cons (pe_ix ix_list (pv 6) pe_int (fun _ _ => rfl)) pa_nil)))) (pe_and (pe_cmpR (op_eqO e1 GM r1 bE pass0) (pe_un (un_own um2 U2 r5 ub2 pass0) (pe_un (un_own um2 U2 r5 ub2 pass0) (pv 9))) (pv 9) (nomark _)) (pe_one (pe_cmpR (op_eqO e1 GM r1 bE pass0) (pe_op (op_own (op := .Mult) hSF um1 U1 r5 ub1 pass0) (pv 12) (pv 9)) (pv 9) (nomark _)))))))))))))))))))))))))))), ?_⟩
    -- state, sizes
    refine ⟨_, rfl, a, zs, rfl, hS, fun S L H1 s1 hSn ST1 => ?_⟩
    refine ⟨_, rfl, S, L, 6, rfl, ST1, by decide, by decide, fun d1 H2 d10 d16 ST2 sb2 => ?_⟩
    refine ⟨_, rfl, S, L, 6, rfl, ST2, by decide, by decide, fun d2 H3 d20 d26 ST3 sb3 => ⟨by show 2 ≤ sizeLine; decide, fun Z hZ => ?_⟩⟩
    generalize eH4 : upd H3 Z (.lst [.int d1, .int d2]) = H4
    have s34 : Same H3 H4 := by rw [← eH4]; exact Same.put hZ
    have ST4 : StAt H4 S L := ST3.same s34
    have hZ4 : H4 Z = some (.lst [.int d1, .int d2]) := by rw [← eH4]; exact upd_same
    have hZS : Z ≠ S := by
      obtain ⟨i, r, z, h, _⟩ := ST3.st
      exact fun q => by rw [q, h] at hZ; cases hZ
    -- nets, ids
    refine gN ?_
    try dsimp only
    refine sA ?_
    refine names3 (K := K) (k := 0) (n := d1.toNat) (d1 := d1) (d2 := d2) (by show some (V.int d1) = some (V.int (d1.toNat : Int)); congr; omega) (by omega) ST4 hZ4 hZS fun D1 H5 q0 q1 q2 xs0 xs1 xs2 ST5 sb5 _ hD1S eD1 nq0 nq1 nq2 => ?_
    refine gN ?_
    try dsimp only
    refine sA ?_
    refine names3 (K := K) (k := 1) (n := d2.toNat) (d1 := d1) (d2 := d2) (by show some (V.int d2) = some (V.int (d2.toNat : Int)); congr; omega) (by omega) ST5 (sb5 _ _ hZ4 hZS) hZS fun D2 H6 p0 p1 p2 ys0 ys1 ys2 ST6 sb6 _ hD2S eD2 np0 np1 np2 => ?_
    have eD1' : H6 D1 = some (.lst [.ref q0, .ref q1, .ref q2]) := sb6 _ _ eD1 hD1S
    have nq0' := nq0.sb sb6
    have nq1' := nq1.sb sb6
    have nq2' := nq2.sb sb6
    -- rows
    refine ⟨_, rfl, _, rfl, D1, _, _, _, rfl, rfl, SqL.of eD1', rfl, _, rfl, D1, _, _, _, rfl, rfl, SqL.of eD1', rfl, S, L, q0, q1, xs0, xs1, rfl, ST6, nq0'.at_, nq1'.at_, nq0'.ne, nq1'.ne, by rw [nq0'.len]; omega, by rw [nq0'.len, nq1'.len], nq0'.nm.nodup, fun t0 H7 m1 ST7 sb7 ht0n ht0S et0 km1 vm1 => ?_⟩
    refine ⟨_, rfl, _, rfl, D2, _, _, _, rfl, rfl, SqL.of (sb7 _ _ eD2 hD2S), rfl, _, rfl, D2, _, _, _, rfl, rfl, SqL.of (sb7 _ _ eD2 hD2S), rfl, S, L, p0, p1, ys0, ys1, rfl, ST7, (np0.sb sb7).at_, (np1.sb sb7).at_, np0.ne, np1.ne, by rw [np0.len]; omega, by rw [np0.len, np1.len], np0.nm.nodup, fun t1 H8 m2 ST8 sb8 ht1n ht1S et1 km2 vm2 => ⟨by show 2 ≤ sizeLine; decide, fun R hR => ?_⟩⟩
    generalize eH9 : upd H8 R (.lst [.ref t0, .ref t1]) = H9
    have s89 : Same H8 H9 := by rw [← eH9]; exact Same.put hR
    have ST9 : StAt H9 S L := ST8.same s89
    have eR : H9 R = some (.lst [.ref t0, .ref t1]) := by rw [← eH9]; exact upd_same
    have hRS : R ≠ S := by
      obtain ⟨i, r, z, h, _⟩ := ST8.st
      exact fun q => by rw [q, h] at hR; cases hR
    have sb69 : SameBut S H6 H9 := (sb7.trans sb8).trans (.of s89)
    have et0' : H9 t0 = some (.dK (dS m1)) := s89 _ _ (sb8 _ _ et0 ht0S)
    have et1' : H9 t1 = some (.dK (dS m2)) := s89 _ _ et1
    -- more
    refine ⟨_, rfl, _, rfl, D1, _, _, _, rfl, rfl, SqL.of (sb69 _ _ eD1' hD1S), rfl, _, rfl, D1, _, _, _, rfl, rfl, SqL.of (sb69 _ _ eD1' hD1S), rfl, S, L, q1, q2, xs1, xs2, rfl, ST9, (nq1'.sb sb69).at_, (nq2'.sb sb69).at_, nq1'.ne, nq2'.ne, by rw [nq1'.len]; omega, by rw [nq1'.len, nq2'.len], nq1'.nm.nodup, fun w0 H10 n1 ST10 sb10 hw0n hw0S ew0 kn1 vn1 => ?_⟩
    have sb610 := sb69.trans sb10
    refine ⟨_, rfl, _, rfl, D2, _, _, _, rfl, rfl, SqL.of (sb610 _ _ eD2 hD2S), rfl, _, rfl, D2, _, _, _, rfl, rfl, SqL.of (sb610 _ _ eD2 hD2S), rfl, S, L, p1, p2, ys1, ys2, rfl, ST10, (np1.sb sb610).at_, (np2.sb sb610).at_, np1.ne, np2.ne, by rw [np1.len]; omega, by rw [np1.len, np2.len], np1.nm.nodup, fun w1 H11 n2 ST11 sb11 hw1n hw1S ew1 kn2 vn2 => ⟨by show 2 ≤ sizeLine; decide, fun W hW => ?_⟩⟩
    generalize eHA : upd H11 W (.lst [.ref w0, .ref w1]) = HA
    have s1A : Same H11 HA := by rw [← eHA]; exact Same.put hW
    have eW : HA W = some (.lst [.ref w0, .ref w1]) := by rw [← eHA]; exact upd_same
    have sb9A : SameBut S H9 HA := (sb10.trans sb11).trans (.of s1A)
    have sb6A : SameBut S H6 HA := sb69.trans sb9A
    have fR : HA R = some (.lst [.ref t0, .ref t1]) := sb9A _ _ eR hRS
    have f0 : HA t0 = some (.dK (dS m1)) := sb9A _ _ et0' ht0S
    have f1' : HA t1 = some (.dK (dS m2)) := sb9A _ _ et1' ht1S
    have i0 : HA w0 = some (.dK (dS n1)) := s1A _ _ (sb11 _ _ ew0 hw0S)
    have i1 : HA w1 = some (.dK (dS n2)) := s1A _ _ ew1
    have tw0 : t0 ≠ w0 := ne_of_none et0' hw0n
    have tw1 : t1 ≠ w1 := ne_of_none (sb10 _ _ et1' ht1S) hw1n
    have fD1 : HA D1 = some (.lst [.ref q0, .ref q1, .ref q2]) := sb6A _ _ eD1' hD1S
    have fD2 : HA D2 = some (.lst [.ref p0, .ref p1, .ref p2]) := sb6A _ _ eD2 hD2S
    have fq0 : HA q0 = some (.lst (xs0.map V.str)) := (nq0'.sb sb6A).at_
    have fp0 : HA p0 = some (.lst (ys0.map V.str)) := (np0.sb sb6A).at_
    have gm1 : Gd m1 := ⟨by show (keys m1).Nodup; rw [km1]; exact nq0'.nm.nodup, (vm1.nodup_iff).mpr nq1'.nm.nodup, by have := congrArg List.length km1; unfold keys at this; rw [List.length_map, nq0'.len] at this; omega⟩
    have gm2 : Gd m2 := ⟨by show (keys m2).Nodup; rw [km2]; exact np0.nm.nodup, (vm2.nodup_iff).mpr np1.nm.nodup, by have := congrArg List.length km2; unfold keys at this; rw [List.length_map, np0.len] at this; omega⟩
    have gn1 : Gd n1 := ⟨by show (keys n1).Nodup; rw [kn1]; exact nq1'.nm.nodup, (vn1.nodup_iff).mpr nq2'.nm.nodup, by have := congrArg List.length kn1; unfold keys at this; rw [List.length_map, nq1'.len] at this; omega⟩
    have gn2 : Gd n2 := ⟨by show (keys n2).Nodup; rw [kn2]; exact np1.nm.nodup, (vn2.nodup_iff).mpr np2.nm.nodup, by have := congrArg List.length kn2; unfold keys at this; rw [List.length_map, np1.len] at this; omega⟩
    have pm1 : (vals m1).Perm (keys n1) := by rw [kn1]; exact vm1
    have pm2 : (vals m2).Perm (keys n2) := by rw [kn2]; exact vm2
    -- given
    refine ⟨_, rfl, R, _, _, _, rfl, rfl, SqL.of fR, rfl, t0, dS m1, rfl, .inl f0, fun y0 hy0 => ?_⟩
    have sY0 : Same HA (upd HA y0 (.dK (dS m1))) := Same.put hy0
    refine ⟨_, rfl, R, _, _, _, rfl, rfl, SqL.of (sY0 _ _ fR), rfl, t1, dS m2, rfl, .inl (sY0 _ _ f1'), fun y1 hy1 => ⟨by show 2 ≤ sizeLine; decide, fun Gv hGv => ?_⟩⟩
    have y01 : y0 ≠ y1 := fun z => by rw [← z, upd_same] at hy1; cases hy1
    have hy1A : HA y1 = none := sY0.free hy1
    have sY1 : Same HA (upd (upd HA y0 (.dK (dS m1))) y1 (.dK (dS m2))) := Same.new sY0 hy1
    generalize eHB : upd (upd (upd HA y0 (.dK (dS m1))) y1 (.dK (dS m2))) Gv (.lst [.ref y0, .ref y1]) = HB
    have sAB : Same HA HB := by rw [← eHB]; exact Same.new sY1 hGv
    have Gy0 : y0 ≠ Gv := fun z => by rw [← z, upd_ne y01, upd_same] at hGv; cases hGv
    have Gy1 : y1 ≠ Gv := fun z => by rw [← z, upd_same] at hGv; cases hGv
    have bG : HB Gv = some (.lst [.ref y0, .ref y1]) := by rw [← eHB]; exact upd_same
    have by0 : HB y0 = some (.dK (dS m1)) := by rw [← eHB, upd_ne Gy0, upd_ne y01, upd_same]
    have by1 : HB y1 = some (.dK (dS m2)) := by rw [← eHB, upd_ne Gy1, upd_same]
    -- one = Matching(given[0], given[1])
    refine ⟨_, rfl, Gv, _, _, _, rfl, rfl, SqL.of bG, rfl, _, rfl, Gv, _, _, _, rfl, rfl, SqL.of bG, rfl, fun o1 x1 ho1 hx1 nx1 => ?_⟩
    have sB1 : Same HB (upd (upd HB x1 (.own o1)) o1 (.ins C x1 [])) := Same.new (Same.put hx1) (by rw [upd_ne (Ne.symm nx1)]; exact ho1)
    refine ⟨o1, x1, y0, y1, m1, m2, rfl, upd_same, sB1 _ _ by0, sB1 _ _ by1, gm1, gm2, fun HC kpC NC => ⟨rfl, ?_⟩⟩
    have sBC : Same HB HC := fun c o e => kpC c o (sB1 _ _ e) (ne_of_none e ho1)
    have NC' : ∀ H2, (∀ c o, HC c = some o → HB c = none → H2 c = some o) → MatchAt C H2 o1 m1 m2 := fun H2 h => NC H2 fun c o e hc => h c o e (by
      rcases hc with hc | hc
      · exact sB1.free hc
      · rw [hc]; exact ho1)
    have sAC : Same HA HC := sAB.trans sBC
    -- other
    refine ⟨_, rfl, W, _, _, _, rfl, rfl, SqL.of (sAC _ _ eW), rfl, w0, dS n1, rfl, .inl (sAC _ _ i0), fun z0 hz0 => ?_⟩
    have sZ0 : Same HC (upd HC z0 (.dK (dS n1))) := Same.put hz0
    refine ⟨_, rfl, W, _, _, _, rfl, rfl, SqL.of (sZ0 _ _ (sAC _ _ eW)), rfl, w1, dS n2, rfl, .inl (sZ0 _ _ (sAC _ _ i1)), fun z1 hz1 => ?_⟩
    have z01 : z0 ≠ z1 := fun z => by rw [← z, upd_same] at hz1; cases hz1
    generalize eHC2 : upd (upd HC z0 (.dK (dS n1))) z1 (.dK (dS n2)) = HC2
    have sC2 : Same HC HC2 := by rw [← eHC2]; exact Same.new sZ0 hz1
    have bz0 : HC2 z0 = some (.dK (dS n1)) := by rw [← eHC2, upd_ne z01, upd_same]
    have bz1 : HC2 z1 = some (.dK (dS n2)) := by rw [← eHC2]; exact upd_same
    intro o2 x2 ho2 hx2 nx2
    have sB2 : Same HC2 (upd (upd HC2 x2 (.own o2)) o2 (.ins C x2 [])) := Same.new (Same.put hx2) (by rw [upd_ne (Ne.symm nx2)]; exact ho2)
    refine ⟨o2, x2, z0, z1, n1, n2, rfl, upd_same, sB2 _ _ bz0, sB2 _ _ bz1, gn1, gn2, fun HD kpD ND => ⟨rfl, ?_⟩⟩
    have s2D : Same HC2 HD := fun c o e => kpD c o (sB2 _ _ e) (ne_of_none e ho2)
    have ND' : ∀ H2, (∀ c o, HD c = some o → HC2 c = none → H2 c = some o) → MatchAt C H2 o2 n1 n2 := fun H2 h => ND H2 fun c o e hc => h c o e (by
      rcases hc with hc | hc
      · exact sB2.free hc
      · rw [hc]; exact ho2)
    have sCD : Same HC HD := sC2.trans s2D
    have sBD : Same HB HD := sBC.trans sCD
    -- given[0].clear(); given[1]['z'] = 'z'
    refine ⟨_, rfl, Gv, _, _, _, rfl, rfl, SqL.of (sBD _ _ bG), rfl, .inr (.inr (.inl ⟨rfl, .inl ⟨_, sBD _ _ by0⟩⟩)), y0, _, rfl, rfl, sBD _ _ by0, ?_⟩
    refine ⟨_, rfl, Gv, _, _, _, rfl, rfl, SqL.of (by rw [upd_ne (Ne.symm Gy0)]; exact sBD _ _ bG), rfl, y1, _, rfl, DPut.k (k := Sum.inr "z") (by rw [upd_ne (Ne.symm y01)]; exact sBD _ _ by1) (small1000 (by rw [dS_length]; have := gm2.2.2; omega)), ?_⟩
    generalize eHE : upd (upd HD y0 (.dK [])) y1 (.dK (putK (dS m2) (Sum.inr "z") (.str "z"))) = HE
    have offE : ∀ c o, HD c = some o → c ≠ y0 → c ≠ y1 → HE c = some o := fun c o e h0 h1 => by rw [← eHE, upd_ne h1, upd_ne h0]; exact e
    have sAE : Same HA HE := fun c o e => offE c o (sBD _ _ (sAB _ _ e)) (ne_of_none e hy0) (ne_of_none e hy1A)
    have ME1 : MatchAt C HE o1 m1 m2 := NC' HE fun c o e hn => offE c o (sCD _ _ e) (fun z => by rw [z, by0] at hn; cases hn) (fun z => by rw [z, by1] at hn; cases hn)
    have ME2 : MatchAt C HE o2 n1 n2 := ND' HE fun c o e hn => offE c o e (fun z => by rw [z, sC2 _ _ (sBC _ _ by0)] at hn; cases hn) (fun z => by rw [z, sC2 _ _ (sBC _ _ by1)] at hn; cases hn)
    -- told
    obtain ⟨a1, a2, a3, a4, a5, A1, A2, A3, A4, A5⟩ := id ME1.ex
    refine ⟨_, rfl, o1, a1, _, rfl, A1, flds_no _ _ _ (by decide +kernel) (by decide +kernel) (by decide +kernel), o1, m1, m2, rfl, ME1, fun v0 hv0 => ?_⟩
    have sV0 : Same HE (upd HE v0 (.dK (dS m1))) := Same.put hv0
    refine ⟨_, rfl, o1, a1, _, rfl, sV0 _ _ A1, flds_no _ _ _ (by decide +kernel) (by decide +kernel) (by decide +kernel), o1, m1, m2, rfl, ME1.same sV0, fun v1 hv1 => ⟨by show 2 ≤ sizeLine; decide, fun Tl hTl => ?_⟩⟩
    have v01 : v0 ≠ v1 := fun z => by rw [← z, upd_same] at hv1; cases hv1
    have hv1E : HE v1 = none := sV0.free hv1
    have sV1 : Same HE (upd (upd HE v0 (.dK (dS m1))) v1 (.dK (dS m2))) := Same.new sV0 hv1
    have Tv0 : v0 ≠ Tl := fun z => by rw [← z, upd_ne v01, upd_same] at hTl; cases hTl
    have Tv1 : v1 ≠ Tl := fun z => by rw [← z, upd_same] at hTl; cases hTl
    have hTlE : HE Tl = none := sV1.free hTl
    refine ⟨_, rfl, Tl, _, _, _, rfl, rfl, SqL.of upd_same, rfl, .inr (.inr (.inl ⟨rfl, .inl ⟨dS m1, by rw [upd_ne Tv0, upd_ne v01, upd_same]⟩⟩)), v0, dS m1, rfl, rfl, by rw [upd_ne Tv0, upd_ne v01, upd_same], ?_⟩
    refine ⟨_, rfl, Tl, _, _, _, rfl, rfl, SqL.of (by rw [upd_ne (Ne.symm Tv0), upd_same]), rfl, v1, _, rfl, DPut.k (kvs := dS m2) (k := Sum.inr "z") (by rw [upd_ne (Ne.symm v01), upd_ne Tv1, upd_same]) (small1000 (by rw [dS_length]; have := gm2.2.2; omega)), ?_⟩
    generalize eHF : upd (upd (upd (upd (upd HE v0 (.dK (dS m1))) v1 (.dK (dS m2))) Tl (.lst [.ref v0, .ref v1])) v0 (.dK [])) v1 (.dK (putK (dS m2) (Sum.inr "z") (.str "z"))) = HF
    have sEF : Same HE HF := fun c o e => by
      have h0 := ne_of_none e hv0
      have h1 := ne_of_none e hv1E
      rw [← eHF, upd_ne h1, upd_ne h0, upd_ne (ne_of_none e hTlE), upd_ne h1, upd_ne h0]
      exact e
    have sAF : Same HA HF := sAE.trans sEF
    have M1 : MatchAt C HF o1 m1 m2 := ME1.same sEF
    have M2 : MatchAt C HF o2 n1 n2 := ME2.same sEF
    -- the names
    have la : PyData.strOk (("a" : Str)) = true := by decide +kernel
    have lb : PyData.strOk (("b" : Str)) = true := by decide +kernel
    have lc : PyData.strOk (("c" : Str)) = true := by decide +kernel
    have ea : ("a" : Str) = ⟨#[97]⟩ := by decide +kernel
    have eb : ("b" : Str) = ⟨#[98]⟩ := by decide +kernel
    have ec : ("c" : Str) = ⟨#[99]⟩ := by decide +kernel
    have N0 := nq0'.nm
    have N1 := nq1'.nm
    have N2 := nq2'.nm
    have O0 := np0.nm
    have O1 := np1.nm
    have O2 := np2.nm
    have vk1 : ∀ x ∈ vals m1, x ∈ xs1 := fun x hx => vm1.mem_iff.mp hx
    have vk2 : ∀ x ∈ vals m2, x ∈ ys1 := fun x hx => vm2.mem_iff.mp hx
    have vl1 : ∀ x ∈ vals n1, x ∈ xs2 := fun x hx => vn1.mem_iff.mp hx
    have vl2 : ∀ x ∈ vals n2, x ∈ ys2 := fun x hx => vn2.mem_iff.mp hx
    have ok1 : OkS m1 := okS_of (fun x hx => N0.ok la (by rw [km1] at hx; exact hx)) (fun x hx => N1.ok lb (vk1 x hx))
    have okn1 : OkS n1 := okS_of (fun x hx => N1.ok lb (by rw [kn1] at hx; exact hx)) (fun x hx => N2.ok lc (vl1 x hx))
    have sub1 : ∀ v ∈ vals m1, v ∈ keys n1 := fun v hv => pm1.mem_iff.mp hv
    have sub2 : ∀ v ∈ vals m2, v ∈ keys n2 := fun v hv => pm2.mem_iff.mp hv
    have vc1 : ∀ x ∈ vals (comp m1 n1), x ∈ xs2 := fun x hx => by
      rw [vals_comp] at hx
      obtain ⟨v, hv, rfl⟩ := List.mem_map.mp hx
      exact vl1 _ (List.mem_map.mpr ⟨_, img_mem (sub1 v hv), rfl⟩)
    have vc2 : ∀ x ∈ vals (comp m2 n2), x ∈ ys2 := fun x hx => by
      rw [vals_comp] at hx
      obtain ⟨v, hv, rfl⟩ := List.mem_map.mp hx
      exact vl2 _ (List.mem_map.mpr ⟨_, img_mem (sub2 v hv), rfl⟩)
    have okc : OkS (comp m1 n1) := okS_of (fun x hx => N0.ok la (by rw [keys_comp, km1] at hx; exact hx)) (fun x hx => N2.ok lc (vc1 x hx))
    have okv : OkS (inv m1) := okS_of (fun x hx => N1.ok lb (vk1 x (by rw [keys_inv] at hx; exact hx))) (fun x hx => N0.ok la (by rw [vals_inv, km1] at hx; exact hx))
    have cR := sAF _ _ fR
    have cW := sAF _ _ eW
    have c0 := sAF _ _ f0
    have c1 := sAF _ _ f1'
    have k0 := sAF _ _ i0
    have k1 := sAF _ _ i1
    obtain ⟨b1', b2', b3', b4', b5', B1, B2, B3, B4, B5⟩ := id M1.ex
    obtain ⟨c1', c2', c3', c4', c5', C1, C2, C3, C4, C5⟩ := id M2.ex
    have fD1F := sAF _ _ fD1
    have fD2F := sAF _ _ fD2
    have fq0F := sAF _ _ fq0
    have fp0F := sAF _ _ fp0
    have idm1 : idB m1 = decide (xs0 = []) := idB_apart km1 fun x hx y hy => by
      rw [km1] at hx
      rw [ea] at N0
      rw [eb] at N1
      exact names_apart (by decide) N0 N1 hx (vk1 y hy)
    have idm2 : idB m2 = decide (ys0 = []) := idB_apart km2 fun x hx y hy => by
      rw [km2] at hx
      rw [ea] at O0
      rw [eb] at O1
      exact names_apart (by decide) O0 O1 hx (vk2 y hy)
    have idc1 : idB (comp m1 (inv m1)) = true := by
      unfold idB
      rw [List.all_eq_true]
      exact fun p hp => decide_eq_true (comp_inv_id gm1 p hp).symm
    have idc2 : idB (comp m2 (inv m2)) = true := by
      unfold idB
      rw [List.all_eq_true]
      exact fun p hp => decide_eq_true (comp_inv_id gm2 p hp).symm
    have oky : ∀ x ∈ ys0, PyData.strOk x = true := fun x hx => O0.ok la hx
    have lenm2 : m2 ≠ [] ∨ ys0 = [] := by
      cases m2 with
      | nil => exact .inr km2.symm
      | cons p r => exact .inl (by simp)
    have apart2 : m2 ≠ [] → dEq m2 (comp m2 n2) = false := fun h => dEq_apart h (gm2.comp gn2 sub2) (keys_comp m2 n2).symm fun x hx y hy => by
      rw [eb] at O1
      rw [ec] at O2
      exact names_apart (by decide) O1 O2 (vk2 x hx) (vc2 y hy)
    have rt1 : comp (comp m1 (inv m1)) m1 = m1 := comp_id gm1 (keys_comp _ _) (comp_inv_id gm1)
    have rt2 : comp (comp m2 (inv m2)) m2 = m2 := comp_id gm2 (keys_comp _ _) (comp_inv_id gm2)
    have nfC : PySem.W.notFirst K C (.ref C) = true := by unfold PySem.W.notFirst; simp
    -- holds(one, ..), holds(other, ..)
    refine ⟨fun σ' J => σ' = [some (.ref a), some (.ref S), some (.ref Z), some (.ref D1), none, some (.ref D2), some (.ref R), some (.ref W), some (.ref Gv), some (.ref o1), some (.ref o2), some (.ref Tl), none] ∧ Same HF J, ?_, ?_⟩
    · refine ⟨_, rfl, _, rfl, R, _, _, _, rfl, rfl, SqL.of cR, rfl, _, rfl, R, _, _, _, rfl, rfl, SqL.of cR, rfl, o1, t0, t1, m1, m2, rfl, M1, c0, c1, ok1, fun J1 j1 => ⟨_, rfl, iteF ?_⟩⟩
      exact ⟨_, rfl, _, rfl, W, _, _, _, rfl, rfl, SqL.of (j1 _ _ cW), rfl, _, rfl, W, _, _, _, rfl, rfl, SqL.of (j1 _ _ cW), rfl, o2, w0, w1, n1, n2, rfl, M2.same j1, j1 _ _ k0, j1 _ _ k1, okn1, fun J2 j2' => ⟨_, rfl, iteF ⟨rfl, j1.trans j2'⟩⟩⟩
    rintro _ J2 ⟨rfl, j2⟩
    -- one * other
    refine ⟨fun σ' J => σ' = [some (.ref a), some (.ref S), some (.ref Z), some (.ref D1), none, some (.ref D2), some (.ref R), some (.ref W), some (.ref Gv), some (.ref o1), some (.ref o2), some (.ref Tl), none] ∧ Same HF J, ?_, ?_⟩
    · refine ⟨_, rfl, _, rfl, o1, o2, b1', c1', _, _, rfl, rfl, j2 _ _ B1, j2 _ _ C1, o1, o2, m1, m2, n1, n2, rfl, M1.same j2, M2.same j2, pm1, pm2, fun r1' J3 j3' hr1' MR => ?_⟩
      have j3 : Same HF J3 := j2.trans j3'
      refine ⟨_, rfl, R, _, _, _, rfl, rfl, SqL.of (j3 _ _ cR), rfl, _, rfl, W, _, _, _, rfl, rfl, SqL.of (j3 _ _ cW), rfl, t0, w0, m1, n1, rfl, j3 _ _ c0, j3 _ _ k0, tw0, gm1, gn1, sub1, fun e0' J4 j4' he0 ee0 => ?_⟩
      have j4 : Same HF J4 := j3.trans j4'
      refine ⟨_, rfl, R, _, _, _, rfl, rfl, SqL.of (j4 _ _ cR), rfl, _, rfl, W, _, _, _, rfl, rfl, SqL.of (j4 _ _ cW), rfl, t1, w1, m2, n2, rfl, j4 _ _ c1, j4 _ _ k1, tw1, gm2, gn2, sub2, fun e1' J5 j5' he1 ee1 => ?_⟩
      exact ⟨r1', e0', e1', comp m1 n1, comp m2 n2, rfl, (MR.same j4').same j5', j5' _ _ ee0, ee1, okc, fun J6 j6' => ⟨_, rfl, iteF ⟨rfl, (j4.trans j5').trans j6'⟩⟩⟩
    rintro _ J6 ⟨rfl, j6⟩
    -- ~one
    refine ⟨fun σ' J => σ' = [some (.ref a), some (.ref S), some (.ref Z), some (.ref D1), none, some (.ref D2), some (.ref R), some (.ref W), some (.ref Gv), some (.ref o1), some (.ref o2), some (.ref Tl), none] ∧ Same HF J, ?_, ?_⟩
    · refine ⟨_, rfl, o1, b1', _, rfl, j6 _ _ B1, o1, m1, m2, rfl, M1.same j6, fun r2' J7 j7' hr2' MV => ?_⟩
      have j7 : Same HF J7 := j6.trans j7'
      refine ⟨_, rfl, R, _, _, _, rfl, rfl, SqL.of (j7 _ _ cR), rfl, t0, m1, rfl, j7 _ _ c0, gm1, fun e2' J8 j8' he2 ee2 => ?_⟩
      have j8 : Same HF J8 := j7.trans j8'
      refine ⟨_, rfl, R, _, _, _, rfl, rfl, SqL.of (j8 _ _ cR), rfl, t1, m2, rfl, j8 _ _ c1, gm2, fun e3' J9 j9' he3 ee3 => ?_⟩
      exact ⟨r2', e2', e3', inv m1, inv m2, rfl, (MV.same j8').same j9', j9' _ _ ee2, ee3, okv, fun J10 j10' => ⟨_, rfl, iteF ⟨rfl, (j8.trans j9').trans j10'⟩⟩⟩
    rintro _ J10 ⟨rfl, j10⟩
    -- same = one * ~one
    refine ⟨_, rfl, _, rfl, o1, b1', _, rfl, j10 _ _ B1, o1, m1, m2, rfl, M1.same j10, fun r3' J11 j11' hr3' MV2 => ?_⟩
    have j11 : Same HF J11 := j10.trans j11'
    obtain ⟨d1', d2', d3', d4', d5', D1', D2', D3', D4', D5'⟩ := id MV2.ex
    refine ⟨o1, r3', b1', d1', _, _, rfl, rfl, j11 _ _ B1, D1', o1, r3', m1, m2, inv m1, inv m2, rfl, M1.same j11, MV2, by rw [keys_inv], by rw [keys_inv], fun sm J12 j12' hsm MS => ?_⟩
    have j12 : Same HF J12 := j11.trans j12'
    obtain ⟨u1', u2', u3', u4', u5', Y1, Y2, Y3, Y4, Y5⟩ := id MS.ex
    -- same.is_identity is not True or ..
    refine ⟨fun σ' J => σ' = [some (.ref a), some (.ref S), some (.ref Z), some (.ref D1), none, some (.ref D2), some (.ref R), some (.ref W), some (.ref Gv), some (.ref o1), some (.ref o2), some (.ref Tl), some (.ref sm)] ∧ Same J12 J, ?_, ?_⟩
    · refine ⟨_, rfl, sm, u1', _, rfl, Y1, sm, _, _, rfl, MS, fun J13 j13 => ?_⟩
      rw [idc1, idc2]
      refine ⟨true, true, rfl, rfl, _, rfl, iteF ?_⟩
      have x13 : Same HF J13 := j12.trans j13
      refine ⟨_, rfl, o1, b1', _, rfl, x13 _ _ B1, o1, m1, m2, rfl, M1.same x13, fun J14 j14' => ?_⟩
      have j14 : Same HF J14 := x13.trans j14'
      rw [idm1, idm2]
      refine ⟨_, rfl, D1, _, _, _, rfl, rfl, SqL.of (j14 _ _ fD1F), rfl, by show 0 ≤ sizeLine; decide, fun n0' hn0' => ?_⟩
      have s14 : Same J14 (upd J14 n0' (.lst [])) := Same.put hn0'
      refine ⟨q0, n0', xs0, [], rfl, rfl, SqL.of (s14 _ _ (j14 _ _ fq0F)), SqL.of upd_same, _, rfl, ?_⟩
      by_cases hx : xs0 = []
      · rw [decide_eq_true hx]
        refine iteT ?_
        have j15 : Same HF (upd J14 n0' (.lst [])) := j14.trans s14
        refine ⟨_, rfl, D2, _, _, _, rfl, rfl, SqL.of (j15 _ _ fD2F), rfl, by show 0 ≤ sizeLine; decide, fun n1' hn1' => ?_⟩
        have s15 : Same (upd J14 n0' (.lst [])) (upd (upd J14 n0' (.lst [])) n1' (.lst [])) := Same.put hn1'
        refine ⟨p0, n1', ys0, [], rfl, rfl, SqL.of (s15 _ _ (j15 _ _ fp0F)), SqL.of upd_same, rfl, _, rfl, ?_⟩
        rw [show (!decide (V.bl (true && decide (ys0 = [])) = V.bl (true == decide (ys0 = [])))) = false by cases decide (ys0 = []) <;> rfl]
        exact iteF ⟨rfl, ((j13.trans j14').trans s14).trans s15⟩
      · rw [decide_eq_false hx]
        refine iteF ?_
        refine ⟨rfl, _, rfl, ?_⟩
        rw [show (!decide (V.bl (false && decide (ys0 = [])) = V.bl false)) = false by rw [Bool.false_and]; rfl]
        exact iteF ⟨rfl, (j13.trans j14').trans s14⟩
    rintro _ J16 ⟨rfl, y16⟩
    have j16 : Same HF J16 := j12.trans y16
    -- one != Matching(..) or one == rows[0] or ..
    refine ⟨fun σ' J => σ' = [some (.ref a), some (.ref S), some (.ref Z), some (.ref D1), none, some (.ref D2), some (.ref R), some (.ref W), some (.ref Gv), some (.ref o1), some (.ref o2), some (.ref Tl), some (.ref sm)] ∧ Same J12 J, ?_, ?_⟩
    · refine ⟨_, rfl, _, rfl, R, _, _, _, rfl, rfl, SqL.of (j16 _ _ cR), rfl, _, rfl, R, _, _, _, rfl, rfl, SqL.of (j16 _ _ cR), rfl, fun o3 x3 ho3 hx3 nx3 => ?_⟩
      have sB3 : Same J16 (upd (upd J16 x3 (.own o3)) o3 (.ins C x3 [])) := Same.new (Same.put hx3) (by rw [upd_ne (Ne.symm nx3)]; exact ho3)
      refine ⟨o3, x3, t0, t1, m1, m2, rfl, upd_same, sB3 _ _ (j16 _ _ c0), sB3 _ _ (j16 _ _ c1), gm1, gm2, fun J17 kp17 NC17 => ⟨rfl, ?_⟩⟩
      have j17' : Same J16 J17 := fun c o e => kp17 c o (sB3 _ _ e) (ne_of_none e ho3)
      have j17 : Same HF J17 := j16.trans j17'
      have M3 : MatchAt C J17 o3 m1 m2 := NC17 J17 fun _ _ e _ => e
      obtain ⟨v1', v2', v3', v4', v5', V1, V2, V3, V4, V5⟩ := id M3.ex
      refine ⟨o1, b1', _, .ref C, rfl, j17 _ _ B1, .inl ⟨o3, v1', _, rfl, V1, rfl⟩, nfC, o1, o3, m1, m2, m1, m2, rfl, M1.same j17, M3, _, rfl, _, rfl, ?_⟩
      rw [dEq_refl gm1, dEq_refl gm2]
      refine iteF ?_
      refine ⟨_, rfl, _, rfl, R, _, _, _, rfl, rfl, SqL.of (j17 _ _ cR), rfl, o1, b1', _, .type "dict", rfl, j17 _ _ B1, .inr (.base (.dK (j17 _ _ c0))), kDC, o1, t0, m1, m2, m1, rfl, M1.same j17, j17 _ _ c0, _, rfl, iteF ?_⟩
      refine ⟨_, rfl, _, rfl, o1, b1', _, .ref C, rfl, j17 _ _ B1, .inl ⟨o2, c1', _, rfl, j17 _ _ C1, rfl⟩, nfC, o1, o2, m1, m2, n1, n2, rfl, M1.same j17, M2.same j17, ?_⟩
      refine ⟨_, rfl, _, rfl, R, W, t0, t1, w0, w1, m1, m2, n1, n2, rfl, rfl, j17 _ _ cR, j17 _ _ cW, tw0, tw1, j17 _ _ c0, j17 _ _ k0, j17 _ _ c1, j17 _ _ k1, rfl, _, rfl, ?_⟩
      rw [decide_eq_true rfl]
      exact iteF ⟨rfl, y16.trans j17'⟩
    rintro _ J18 ⟨rfl, y18⟩
    have j18 : Same HF J18 := j12.trans y18
    -- ids[0] != [] and one == Matching(..)
    refine ⟨fun σ' J => σ' = [some (.ref a), some (.ref S), some (.ref Z), some (.ref D1), none, some (.ref D2), some (.ref R), some (.ref W), some (.ref Gv), some (.ref o1), some (.ref o2), some (.ref Tl), some (.ref sm)] ∧ Same J12 J, ?_, ?_⟩
    · refine ⟨_, rfl, D2, _, _, _, rfl, rfl, SqL.of (j18 _ _ fD2F), rfl, by show 0 ≤ sizeLine; decide, fun n2' hn2' => ?_⟩
      have s18 : Same J18 (upd J18 n2' (.lst [])) := Same.put hn2'
      have j19 : Same HF (upd J18 n2' (.lst [])) := j18.trans s18
      refine ⟨.list (ys0.map PyData.str), .list [], .lst (SqL.of (j19 _ _ fp0F)) (dpAll_S ys0), .lst (SqL.of upd_same) .nil, shaped_S oky, by decide +kernel, _, rfl, ?_⟩
      rw [eqv_nil]
      by_cases hy : ys0 = []
      · rw [decide_eq_true hy]
        exact iteF ⟨rfl, y18.trans s18⟩
      · rw [decide_eq_false hy]
        refine iteT ?_
        have hm2 : m2 ≠ [] := by
          rcases lenm2 with h | h
          · exact h
          · exact absurd h hy
        refine ⟨_, rfl, _, rfl, R, _, _, _, rfl, rfl, SqL.of (j19 _ _ cR), rfl, _, rfl, R, _, _, _, rfl, rfl, SqL.of (j19 _ _ cR), rfl, _, rfl, W, _, _, _, rfl, rfl, SqL.of (j19 _ _ cW), rfl, t1, w1, m2, n2, rfl, j19 _ _ c1, j19 _ _ k1, tw1, gm2, gn2, sub2, fun e4' J20 j20' he4 ee4 => ?_⟩
        have j20 : Same HF J20 := j19.trans j20'
        intro o4 x4 ho4 hx4 nx4
        have sB4 : Same J20 (upd (upd J20 x4 (.own o4)) o4 (.ins C x4 [])) := Same.new (Same.put hx4) (by rw [upd_ne (Ne.symm nx4)]; exact ho4)
        refine ⟨o4, x4, t0, e4', m1, comp m2 n2, rfl, upd_same, sB4 _ _ (j20 _ _ c0), sB4 _ _ ee4, gm1, gm2.comp gn2 sub2, fun J21 kp21 NC21 => ⟨rfl, ?_⟩⟩
        have j21' : Same J20 J21 := fun c o e => kp21 c o (sB4 _ _ e) (ne_of_none e ho4)
        have j21 : Same HF J21 := j20.trans j21'
        have M4 : MatchAt C J21 o4 m1 (comp m2 n2) := NC21 J21 fun _ _ e _ => e
        obtain ⟨v1', v2', v3', v4', v5', V1, V2, V3, V4, V5⟩ := id M4.ex
        refine ⟨o1, b1', _, .ref C, rfl, j21 _ _ B1, .inl ⟨o4, v1', _, rfl, V1, rfl⟩, nfC, o1, o4, m1, m2, m1, comp m2 n2, rfl, M1.same j21, M4, _, rfl, ?_⟩
        rw [apart2 hm2, Bool.and_false]
        exact iteF ⟨rfl, ((y18.trans s18).trans j20').trans j21'⟩
    rintro _ J22 ⟨rfl, y22⟩
    have j22 : Same HF J22 := j12.trans y22
    -- return ..
    refine ⟨_, rfl, _, rfl, R, _, _, _, rfl, rfl, SqL.of (j22 _ _ cR), rfl, _, rfl, R, _, _, _, rfl, rfl, SqL.of (j22 _ _ cR), rfl, o1, t0, t1, m1, m2, rfl, M1.same j22, j22 _ _ c0, j22 _ _ c1, ok1, fun J23 j23' => ⟨_, rfl, iteT ?_⟩⟩
    have j23 : Same HF J23 := j22.trans j23'
    refine ⟨_, rfl, o1, b1', _, rfl, j23 _ _ B1, o1, m1, m2, rfl, M1.same j23, fun r5' J24 j24' _ MV5 => ?_⟩
    obtain ⟨v1', v2', v3', v4', v5', V1, V2, V3, V4, V5⟩ := id MV5.ex
    refine ⟨r5', v1', _, rfl, V1, r5', inv m1, inv m2, rfl, MV5, fun r6' J25 j25' _ MV6 => ?_⟩
    have j25 : Same HF J25 := (j23.trans j24').trans j25'
    rw [inv_inv, inv_inv] at MV6
    obtain ⟨v1', v2', v3', v4', v5', V1, V2, V3, V4, V5⟩ := id MV6.ex
    refine ⟨_, rfl, r6', v1', _, .ref C, rfl, V1, .inl ⟨o1, b1', _, rfl, j25 _ _ B1, rfl⟩, nfC, r6', o1, m1, m2, m1, m2, rfl, MV6, M1.same j25, _, rfl, ?_⟩
    rw [dEq_refl gm1, dEq_refl gm2]
    refine iteT ?_
    have y25 : Same J12 J25 := ((y22.trans j23').trans j24').trans j25'
    refine ⟨_, rfl, _, rfl, sm, o1, u1', b1', _, _, rfl, rfl, y25 _ _ Y1, j25 _ _ B1, sm, o1, comp m1 (inv m1), comp m2 (inv m2), m1, m2, rfl, MS.same y25, M1.same j25, ?_, ?_, fun r7' J26 j26' _ MW => ?_⟩
    · rw [vals_id (comp_inv_id gm1), keys_comp]
    · rw [vals_id (comp_inv_id gm2), keys_comp]
    rw [rt1, rt2] at MW
    obtain ⟨v1', v2', v3', v4', v5', V1, V2, V3, V4, V5⟩ := id MW.ex
    have j26 : Same HF J26 := j25.trans j26'
    refine ⟨_, rfl, r7', v1', _, .ref C, rfl, V1, .inl ⟨o1, b1', _, rfl, j26 _ _ B1, rfl⟩, nfC, r7', o1, m1, m2, m1, m2, rfl, MW, M1.same j26, ?_⟩
    rw [dEq_refl gm1, dEq_refl gm2]
    exact k _
end
end WW
namespace WW
open PySem PySem.Spec PyProof.Rows L2
theorem kit_self {K : PySem.W.Frag} {C : Addr} : PySem.W.kitOne K (.ref C) (.ref C) = some true := by
  unfold PySem.W.kitOne
  rw [if_pos (by simp)]
theorem kit_own {K : PySem.W.Frag} {C : Addr} {T : String} {b : Bool} (h2 : PySem.W.isClsIn K C = true) (h3 : PySem.W.typeIn K (.ref C) = some (.type "type")) (h4 : PySem.W.subIn K (.type T) (.ref C) = some b) : PySem.W.kitOne K (.type T) (.ref C) = some b := by
  unfold PySem.W.kitOne
  rw [if_neg (by simp)]
  have h2' : (PySem.W.clsIn K C).isSome = true := h2
  show (if ((PySem.W.clsIn K C).isSome && PySem.W.typeIn K (.ref C) == some (.type "type")) = true then PySem.W.subIn K (.type T) (.ref C) else none) = some b
  rw [h2', h3, if_pos (by simp)]
  exact h4
theorem all_mk {l : PySem.W.OpenLaw} {w : World} {K : PySem.W.Frag} {h : Heap} {mg : Str → Option Value} {fa C f1 f2 f3 f4 f5 f6 f7 f8 f9 f10 f11 f12 f13 f14 f15 f16 f17 f18 f19 f20 f21 f22 f23 p11 : Addr} {rs11 : List Value} (X : K.In h) (G : h.Ns mainGlobals mg) (hfa : mg "law" = some (.ref fa))
    {od1 an1 : Option Addr} {sl1 : Array (Option Value)} {oc1 kV1 dc1 pm1 cd1 ct1 : Value}
    {od2 an2 : Option Addr} {sl2 : Array (Option Value)} {oc2 kV2 dc2 pm2 cd2 ct2 : Value}
    {od3 an3 : Option Addr} {sl3 : Array (Option Value)} {oc3 kV3 dc3 pm3 cd3 ct3 : Value}
    {od4 an4 : Option Addr} {sl4 : Array (Option Value)} {oc4 kV4 dc4 pm4 cd4 ct4 : Value}
    {od5 an5 : Option Addr} {sl5 : Array (Option Value)} {oc5 kV5 dc5 pm5 cd5 ct5 : Value}
    {od6 an6 : Option Addr} {sl6 : Array (Option Value)} {oc6 kV6 dc6 pm6 cd6 ct6 : Value}
    {od7 an7 : Option Addr} {sl7 : Array (Option Value)} {oc7 kV7 dc7 pm7 cd7 ct7 : Value}
    {od8 an8 : Option Addr} {sl8 : Array (Option Value)} {oc8 kV8 dc8 pm8 cd8 ct8 : Value}
    {od9 an9 : Option Addr} {sl9 : Array (Option Value)} {oc9 kV9 dc9 pm9 cd9 ct9 : Value}
    {od10 an10 : Option Addr} {sl10 : Array (Option Value)} {oc10 kV10 dc10 pm10 cd10 ct10 : Value}
    {od11 an11 : Option Addr} {sl11 : Array (Option Value)} {oc11 kV11 dc11 pm11 cd11 ct11 : Value}
    {od12 an12 : Option Addr} {sl12 : Array (Option Value)} {oc12 kV12 dc12 pm12 cd12 ct12 : Value}
    {od13 an13 : Option Addr} {sl13 : Array (Option Value)} {oc13 kV13 dc13 pm13 cd13 ct13 : Value}
    {od14 an14 : Option Addr} {sl14 : Array (Option Value)} {oc14 kV14 dc14 pm14 cd14 ct14 : Value}
    {od15 an15 : Option Addr} {sl15 : Array (Option Value)} {oc15 kV15 dc15 pm15 cd15 ct15 : Value}
    {od16 an16 : Option Addr} {sl16 : Array (Option Value)} {oc16 kV16 dc16 pm16 cd16 ct16 : Value}
    {od17 an17 : Option Addr} {sl17 : Array (Option Value)} {oc17 kV17 dc17 pm17 cd17 ct17 : Value}
    {od18 an18 : Option Addr} {sl18 : Array (Option Value)} {oc18 kV18 dc18 pm18 cd18 ct18 : Value}
    {od19 an19 : Option Addr} {sl19 : Array (Option Value)} {oc19 kV19 dc19 pm19 cd19 ct19 : Value}
    {od20 an20 : Option Addr} {sl20 : Array (Option Value)} {oc20 kV20 dc20 pm20 cd20 ct20 : Value}
    {od21 an21 : Option Addr} {sl21 : Array (Option Value)} {oc21 kV21 dc21 pm21 cd21 ct21 : Value}
    {od22 an22 : Option Addr} {sl22 : Array (Option Value)} {oc22 kV22 dc22 pm22 cd22 ct22 : Value}
    {od23 an23 : Option Addr} {sl23 : Array (Option Value)} {oc23 kV23 dc23 pm23 cd23 ct23 : Value}
    (aC : PySem.W.nsIn K mainGlobals "Matching" = some (some (.ref C)))
    (a1 : PySem.W.findIn K (.ref C) "__init__" = some (some (.ref f1))) (i1 : PySem.W.isFn K (.ref f1) = true)
    (l1 : K.lookup f1 = some ⟨oc1, od1, .func (PySem.W.fnOf "__init__" "Matching.__init__" (defArgs sInit) (defBody sInit) (defScope sInit) .none kV1 dc1 pm1 an1 cd1 ct1), sl1⟩) (c1 : PySem.W.codeIn K cd1 "Matching.__init__" = true) (k1 : PySem.W.keepIn K (.ref f1) = true)
    (a2 : PySem.W.findIn K (.ref C) "__call__" = some (some (.ref f2))) (i2 : PySem.W.isFn K (.ref f2) = true)
    (l2 : K.lookup f2 = some ⟨oc2, od2, .func (PySem.W.fnOf "__call__" "Matching.__call__" (defArgs sCall) (defBody sCall) (defScope sCall) .none kV2 dc2 pm2 an2 cd2 ct2), sl2⟩) (c2 : PySem.W.codeIn K cd2 "Matching.__call__" = true) (k2 : PySem.W.keepIn K (.ref f2) = true)
    (a3 : PySem.W.findIn K (.ref C) "id_of" = some (some (.ref f3))) (i3 : PySem.W.isFn K (.ref f3) = true)
    (l3 : K.lookup f3 = some ⟨oc3, od3, .func (PySem.W.fnOf "id_of" "Matching.id_of" (defArgs sIdOf) (defBody sIdOf) (defScope sIdOf) .none kV3 dc3 pm3 an3 cd3 ct3), sl3⟩) (c3 : PySem.W.codeIn K cd3 "Matching.id_of" = true) (k3 : PySem.W.keepIn K (.ref f3) = true)
    (a4 : PySem.W.findIn K (.ref C) "net_map" = some (some (.ref f4))) (i4 : PySem.W.isFn K (.ref f4) = true)
    (l4 : K.lookup f4 = some ⟨oc4, od4, .func (PySem.W.fnOf "net_map" "Matching.net_map" (defArgs sNetMap) (defBody sNetMap) (defScope sNetMap) .none kV4 dc4 pm4 an4 cd4 ct4), sl4⟩) (c4 : PySem.W.codeIn K cd4 "Matching.net_map" = true) (k4 : PySem.W.keepIn K (.ref f4) = true)
    (a5 : PySem.W.findIn K (.ref C) "id_map" = some (some (.ref f5))) (i5 : PySem.W.isFn K (.ref f5) = true)
    (l5 : K.lookup f5 = some ⟨oc5, od5, .func (PySem.W.fnOf "id_map" "Matching.id_map" (defArgs sIdMap) (defBody sIdMap) (defScope sIdMap) .none kV5 dc5 pm5 an5 cd5 ct5), sl5⟩) (c5 : PySem.W.codeIn K cd5 "Matching.id_map" = true) (k5 : PySem.W.keepIn K (.ref f5) = true)
    (a6 : PySem.W.findIn K (.ref C) "__mul__" = some (some (.ref f6))) (i6 : PySem.W.isFn K (.ref f6) = true)
    (l6 : K.lookup f6 = some ⟨oc6, od6, .func (PySem.W.fnOf "__mul__" "Matching.__mul__" (defArgs sMul) (defBody sMul) (defScope sMul) .none kV6 dc6 pm6 an6 cd6 ct6), sl6⟩) (c6 : PySem.W.codeIn K cd6 "Matching.__mul__" = true) (k6 : PySem.W.keepIn K (.ref f6) = true)
    (a7 : PySem.W.findIn K (.ref C) "__invert__" = some (some (.ref f7))) (i7 : PySem.W.isFn K (.ref f7) = true)
    (l7 : K.lookup f7 = some ⟨oc7, od7, .func (PySem.W.fnOf "__invert__" "Matching.__invert__" (defArgs sInv) (defBody sInv) (defScope sInv) .none kV7 dc7 pm7 an7 cd7 ct7), sl7⟩) (c7 : PySem.W.codeIn K cd7 "Matching.__invert__" = true) (k7 : PySem.W.keepIn K (.ref f7) = true)
    (a8 : PySem.W.findIn K (.ref C) "__eq__" = some (some (.ref f8))) (i8 : PySem.W.isFn K (.ref f8) = true)
    (l8 : K.lookup f8 = some ⟨oc8, od8, .func (PySem.W.fnOf "__eq__" "Matching.__eq__" (defArgs sEq) (defBody sEq) (defScope sEq) .none kV8 dc8 pm8 an8 cd8 ct8), sl8⟩) (c8 : PySem.W.codeIn K cd8 "Matching.__eq__" = true) (k8 : PySem.W.keepIn K (.ref f8) = true)
    (a9 : PySem.W.findIn K (.ref C) "__len__" = some (some (.ref f9))) (i9 : PySem.W.isFn K (.ref f9) = true)
    (l9 : K.lookup f9 = some ⟨oc9, od9, .func (PySem.W.fnOf "__len__" "Matching.__len__" (defArgs sLen) (defBody sLen) (defScope sLen) .none kV9 dc9 pm9 an9 cd9 ct9), sl9⟩) (c9 : PySem.W.codeIn K cd9 "Matching.__len__" = true) (k9 : PySem.W.keepIn K (.ref f9) = true)
    (a10 : PySem.W.findIn K (.ref C) "__iter__" = some (some (.ref f10))) (i10 : PySem.W.isFn K (.ref f10) = true)
    (l10 : K.lookup f10 = some ⟨oc10, od10, .func (PySem.W.fnOf "__iter__" "Matching.__iter__" (defArgs sIter) (defBody sIter) (defScope sIter) .none kV10 dc10 pm10 an10 cd10 ct10), sl10⟩) (c10 : PySem.W.codeIn K cd10 "Matching.__iter__" = true) (k10 : PySem.W.keepIn K (.ref f10) = true)
    (a11 : PySem.W.findIn K (.ref C) "is_identity" = some (some (.ref p11))) (g11 : PySem.W.specialIn K (.ref p11) "__get__" = some (some (.builtin "property.__get__"))) (t11 : PySem.W.takesIn K (.ref p11) = some true) (r11 : PySem.W.recIn K p11 "property" = some (.ref f11 :: rs11))
    (l11 : K.lookup f11 = some ⟨oc11, od11, .func (PySem.W.fnOf "is_identity" "Matching.is_identity" (defArgs sIsId) (defBody sIsId) (defScope sIsId) .none kV11 dc11 pm11 an11 cd11 ct11), sl11⟩) (c11 : PySem.W.codeIn K cd11 "Matching.is_identity" = true) (k11 : PySem.W.keepIn K (.ref f11) = true)
    (a12 : PySem.W.nsIn K mainGlobals "in_order" = some (some (.ref f12)))
    (l12 : K.lookup f12 = some ⟨oc12, od12, .func (PySem.W.fnOf "in_order" "in_order" (defArgs sInOrder) (defBody sInOrder) (defScope sInOrder) .none kV12 dc12 pm12 an12 cd12 ct12), sl12⟩) (c12 : PySem.W.codeIn K cd12 "in_order" = true) (k12 : PySem.W.keepIn K (.ref f12) = true)
    (a13 : PySem.W.nsIn K mainGlobals "are_unlike" = some (some (.ref f13)))
    (l13 : K.lookup f13 = some ⟨oc13, od13, .func (PySem.W.fnOf "are_unlike" "are_unlike" (defArgs sUnlike) (defBody sUnlike) (defScope sUnlike) .none kV13 dc13 pm13 an13 cd13 ct13), sl13⟩) (c13 : PySem.W.codeIn K cd13 "are_unlike" = true) (k13 : PySem.W.keepIn K (.ref f13) = true)
    (a14 : PySem.W.nsIn K mainGlobals "is_one_to_one" = some (some (.ref f14)))
    (l14 : K.lookup f14 = some ⟨oc14, od14, .func (PySem.W.fnOf "is_one_to_one" "is_one_to_one" (defArgs sOne) (defBody sOne) (defScope sOne) .none kV14 dc14 pm14 an14 cd14 ct14), sl14⟩) (c14 : PySem.W.codeIn K cd14 "is_one_to_one" = true) (k14 : PySem.W.keepIn K (.ref f14) = true)
    (a15 : PySem.W.nsIn K mainGlobals "fits_behind" = some (some (.ref f15)))
    (l15 : K.lookup f15 = some ⟨oc15, od15, .func (PySem.W.fnOf "fits_behind" "fits_behind" (defArgs sFits) (defBody sFits) (defScope sFits) .none kV15 dc15 pm15 an15 cd15 ct15), sl15⟩) (c15 : PySem.W.codeIn K cd15 "fits_behind" = true) (k15 : PySem.W.keepIn K (.ref f15) = true)
    (a16 : PySem.W.nsIn K mainGlobals "_law_start" = some (some (.ref f16)))
    (l16 : K.lookup f16 = some ⟨oc16, od16, .func (PySem.W.fnOf "_law_start" "_law_start" (defArgs sStart) (defBody sStart) (defScope sStart) .none kV16 dc16 pm16 an16 cd16 ct16), sl16⟩) (c16 : PySem.W.codeIn K cd16 "_law_start" = true) (k16 : PySem.W.keepIn K (.ref f16) = true)
    (a17 : PySem.W.nsIn K mainGlobals "_law_draw" = some (some (.ref f17)))
    (l17 : K.lookup f17 = some ⟨oc17, od17, .func (PySem.W.fnOf "_law_draw" "_law_draw" (defArgs sDraw) (defBody sDraw) (defScope sDraw) .none kV17 dc17 pm17 an17 cd17 ct17), sl17⟩) (c17 : PySem.W.codeIn K cd17 "_law_draw" = true) (k17 : PySem.W.keepIn K (.ref f17) = true)
    (a18 : PySem.W.nsIn K mainGlobals "_law_names" = some (some (.ref f18)))
    (l18 : K.lookup f18 = some ⟨oc18, od18, .func (PySem.W.fnOf "_law_names" "_law_names" (defArgs sNames) (defBody sNames) (defScope sNames) .none kV18 dc18 pm18 an18 cd18 ct18), sl18⟩) (c18 : PySem.W.codeIn K cd18 "_law_names" = true) (k18 : PySem.W.keepIn K (.ref f18) = true)
    (a19 : PySem.W.nsIn K mainGlobals "_law_map" = some (some (.ref f19)))
    (l19 : K.lookup f19 = some ⟨oc19, od19, .func (PySem.W.fnOf "_law_map" "_law_map" (defArgs sMap) (defBody sMap) (defScope sMap) .none kV19 dc19 pm19 an19 cd19 ct19), sl19⟩) (c19 : PySem.W.codeIn K cd19 "_law_map" = true) (k19 : PySem.W.keepIn K (.ref f19) = true)
    (a20 : PySem.W.nsIn K mainGlobals "_law_then" = some (some (.ref f20)))
    (l20 : K.lookup f20 = some ⟨oc20, od20, .func (PySem.W.fnOf "_law_then" "_law_then" (defArgs sThen) (defBody sThen) (defScope sThen) .none kV20 dc20 pm20 an20 cd20 ct20), sl20⟩) (c20 : PySem.W.codeIn K cd20 "_law_then" = true) (k20 : PySem.W.keepIn K (.ref f20) = true)
    (a21 : PySem.W.nsIn K mainGlobals "_law_back" = some (some (.ref f21)))
    (l21 : K.lookup f21 = some ⟨oc21, od21, .func (PySem.W.fnOf "_law_back" "_law_back" (defArgs sBack) (defBody sBack) (defScope sBack) .none kV21 dc21 pm21 an21 cd21 ct21), sl21⟩) (c21 : PySem.W.codeIn K cd21 "_law_back" = true) (k21 : PySem.W.keepIn K (.ref f21) = true)
    (a22 : PySem.W.nsIn K mainGlobals "_law_holds" = some (some (.ref f22)))
    (l22 : K.lookup f22 = some ⟨oc22, od22, .func (PySem.W.fnOf "_law_holds" "_law_holds" (defArgs sHolds) (defBody sHolds) (defScope sHolds) .none kV22 dc22 pm22 an22 cd22 ct22), sl22⟩) (c22 : PySem.W.codeIn K cd22 "_law_holds" = true) (k22 : PySem.W.keepIn K (.ref f22) = true)
    (a23 : PySem.W.nsIn K mainGlobals "law" = some (some (.ref f23)))
    (l23 : K.lookup f23 = some ⟨oc23, od23, .func (PySem.W.fnOf "law" "law" (defArgs sLaw) (defBody sLaw) (defScope sLaw) .none kV23 dc23 pm23 an23 cd23 ct23), sl23⟩) (c23 : PySem.W.codeIn K cd23 "law" = true) (k23 : PySem.W.keepIn K (.ref f23) = true)
    (pg : PySem.W.plainGet K C Str.empty = true)
    (hd : PySem.W.hasDictIn K C = true)
    (po : PySem.W.plainOver K C = true)
    (sa : PySem.W.findIn K (.ref C) "__setattr__" = some (some (.builtin "object.__setattr__")))
    (mk : PySem.W.makesIn K C = true)
    (kc : PySem.W.keepIn K (.ref C) = true)
    (nN : PySem.W.findIn K (.ref C) "net_images" = some none)
    (nI : PySem.W.findIn K (.ref C) "id_images" = some none)
    (nP : PySem.W.findIn K (.ref C) "pairs" = some none)
    (ha : PySem.W.findIn K (.ref C) "__class__" = some (some (.builtin "object.__class__")))
    (hn : PySem.W.specialIn K (.builtin "object.__class__") "__get__" = some (some (.builtin "getset_descriptor.__get__")))
    (htk : PySem.W.takesIn K (.builtin "object.__class__") = some true)
    (hm : PySem.W.mroIn K C (.type "object") = some true)
    (iC : PySem.W.isClsIn K C = true)
    (tC : PySem.W.typeIn K (.ref C) = some (.type "type"))
    (sD : PySem.W.subIn K (.type "dict") (.ref C) = some false)
    (sf : PySem.W.selfFirst K C = true)
    (ne : PySem.W.findIn K (.ref C) "__ne__" = some (some (.builtin "object.__ne__")))
    (nf : PySem.W.notFirst K C (.type "dict") = true)
    (fi : PySem.W.fnIn K f2 = true)
    (z_sorted : PySem.W.nsIn K mainGlobals "sorted" = some none)
    (z_str : PySem.W.nsIn K mainGlobals "str" = some none)
    (z_len : PySem.W.nsIn K mainGlobals "len" = some none)
    (z_isinstance : PySem.W.nsIn K mainGlobals "isinstance" = some none)
    (z_all : PySem.W.nsIn K mainGlobals "all" = some none)
    (z_list : PySem.W.nsIn K mainGlobals "list" = some none)
    (z_dict : PySem.W.nsIn K mainGlobals "dict" = some none)
    (z_range : PySem.W.nsIn K mainGlobals "range" = some none)
    (z_enumerate : PySem.W.nsIn K mainGlobals "enumerate" = some none)
    (z_iter : PySem.W.nsIn K mainGlobals "iter" = some none)
    (z_int : PySem.W.nsIn K mainGlobals "int" = some none) :
    ∃ fd : FuncData, (∀ (s : Shared) (v : Value), BindsTo s fd ⟨[v], []⟩ [("_law_script", v)]) ∧ ∀ base : Heap, K.In base → base.Ns mainGlobals mg → FnOk l.prog w K mg base CX0 8 fa fd ["_law_script"] (spLaw K) := by
  have e := hfa.symm.trans (PySem.W.mg_of X G a23)
  cases e
  have T : MTxt K mg C := ⟨⟨pg, hd, po, sa⟩, nN, nI, nP, PySem.W.mg_of X G aC, ⟨⟨pg, hd, po, sa⟩, ha, hn, htk, hm, kit_self⟩, kit_own iC tC sD⟩
  have B : Blt mg := ⟨PySem.W.mg_none_of X G z_sorted, PySem.W.mg_none_of X G z_str, PySem.W.mg_none_of X G z_len, PySem.W.mg_none_of X G z_isinstance, PySem.W.mg_none_of X G z_all, PySem.W.mg_none_of X G z_list, PySem.W.mg_none_of X G z_dict, PySem.W.mg_none_of X G z_range, PySem.W.mg_none_of X G z_enumerate, PySem.W.mg_none_of X G z_iter, PySem.W.mg_none_of X G z_int⟩
  have F1 := fun_mk (st := sInit) l1 c1 k1
  have b1 := F1.binds (ps := ["self", "nets", "ids"]) fun _ _ _ _ _ _ us hl => match us, hl with | [_, _, _], _ => rfl
  have F2 := fun_mk (st := sCall) l2 c2 k2
  have b2 := F2.binds (ps := ["self", "net"]) fun _ _ _ _ _ _ us hl => match us, hl with | [_, _], _ => rfl
  have F3 := fun_mk (st := sIdOf) l3 c3 k3
  have b3 := F3.binds (ps := ["self", "name"]) fun _ _ _ _ _ _ us hl => match us, hl with | [_, _], _ => rfl
  have F4 := fun_mk (st := sNetMap) l4 c4 k4
  have b4 := F4.binds (ps := ["self"]) fun _ _ _ _ _ _ us hl => match us, hl with | [_], _ => rfl
  have F5 := fun_mk (st := sIdMap) l5 c5 k5
  have b5 := F5.binds (ps := ["self"]) fun _ _ _ _ _ _ us hl => match us, hl with | [_], _ => rfl
  have F6 := fun_mk (st := sMul) l6 c6 k6
  have b6 := F6.binds (ps := ["self", "other"]) fun _ _ _ _ _ _ us hl => match us, hl with | [_, _], _ => rfl
  have F7 := fun_mk (st := sInv) l7 c7 k7
  have b7 := F7.binds (ps := ["self"]) fun _ _ _ _ _ _ us hl => match us, hl with | [_], _ => rfl
  have F8 := fun_mk (st := sEq) l8 c8 k8
  have b8 := F8.binds (ps := ["self", "other"]) fun _ _ _ _ _ _ us hl => match us, hl with | [_, _], _ => rfl
  have F9 := fun_mk (st := sLen) l9 c9 k9
  have b9 := F9.binds (ps := ["self"]) fun _ _ _ _ _ _ us hl => match us, hl with | [_], _ => rfl
  have F10 := fun_mk (st := sIter) l10 c10 k10
  have b10 := F10.binds (ps := ["self"]) fun _ _ _ _ _ _ us hl => match us, hl with | [_], _ => rfl
  have F11 := fun_mk (st := sIsId) l11 c11 k11
  have b11 := F11.binds (ps := ["self"]) fun _ _ _ _ _ _ us hl => match us, hl with | [_], _ => rfl
  have F12 := fun_mk (st := sInOrder) l12 c12 k12
  have b12 := F12.binds (ps := ["texts"]) fun _ _ _ _ _ _ us hl => match us, hl with | [_], _ => rfl
  have F13 := fun_mk (st := sUnlike) l13 c13 k13
  have b13 := F13.binds (ps := ["some"]) fun _ _ _ _ _ _ us hl => match us, hl with | [_], _ => rfl
  have F14 := fun_mk (st := sOne) l14 c14 k14
  have b14 := F14.binds (ps := ["thing"]) fun _ _ _ _ _ _ us hl => match us, hl with | [_], _ => rfl
  have F15 := fun_mk (st := sFits) l15 c15 k15
  have b15 := F15.binds (ps := ["one", "other"]) fun _ _ _ _ _ _ us hl => match us, hl with | [_, _], _ => rfl
  have F16 := fun_mk (st := sStart) l16 c16 k16
  have b16 := F16.binds (ps := ["_law_script"]) fun _ _ _ _ _ _ us hl => match us, hl with | [_], _ => rfl
  have F17 := fun_mk (st := sDraw) l17 c17 k17
  have b17 := F17.binds (ps := ["_law_state", "_law_many"]) fun _ _ _ _ _ _ us hl => match us, hl with | [_, _], _ => rfl
  have F18 := fun_mk (st := sNames) l18 c18 k18
  have b18 := F18.binds (ps := ["_law_state", "_law_many", "_law_letter"]) fun _ _ _ _ _ _ us hl => match us, hl with | [_, _, _], _ => rfl
  have F19 := fun_mk (st := sMap) l19 c19 k19
  have b19 := F19.binds (ps := ["_law_state", "_law_names_here", "_law_targets"]) fun _ _ _ _ _ _ us hl => match us, hl with | [_, _, _], _ => rfl
  have F20 := fun_mk (st := sThen) l20 c20 k20
  have b20 := F20.binds (ps := ["_law_images", "_law_later"]) fun _ _ _ _ _ _ us hl => match us, hl with | [_, _], _ => rfl
  have F21 := fun_mk (st := sBack) l21 c21 k21
  have b21 := F21.binds (ps := ["_law_images"]) fun _ _ _ _ _ _ us hl => match us, hl with | [_], _ => rfl
  have F22 := fun_mk (st := sHolds) l22 c22 k22
  have b22 := F22.binds (ps := ["_law_told", "_law_nets", "_law_ids"]) fun _ _ _ _ _ _ us hl => match us, hl with | [_, _, _], _ => rfl
  have F23 := fun_mk (st := sLaw) l23 c23 k23
  have b23 := F23.binds (ps := ["_law_script"]) fun _ _ _ _ _ _ us hl => match us, hl with | [_], _ => rfl
  refine ⟨PySem.W.fnOf "law" "law" (defArgs sLaw) (defBody sLaw) (defScope sLaw) .none kV23 dc23 pm23 an23 cd23 ct23, fun s v => .of_eq rfl, fun base _ _ => ?_⟩
  have GIL := ok_inOrderL (P := l.prog) (w := w) (mg := mg) (base := base) F12 B
  have GID := ok_inOrderD (P := l.prog) (w := w) (mg := mg) (base := base) F12 B
  have GO := ok_one (P := l.prog) (w := w) (mg := mg) (base := base) F14 F13 b13 (PySem.W.mg_of X G a13) B
  have GN := ok_init (P := l.prog) (w := w) (base := base) F1 T B GO b14 (PySem.W.mg_of X G a14) k14 GID b12 (PySem.W.mg_of X G a12) k12
  have GF := ok_fits (P := l.prog) (w := w) (base := base) F15 T B GIL GID b12 (PySem.W.mg_of X G a12) k12
  have MK : Mk K C f1 := ⟨mk, a1, i1, kc⟩
  have GMU := ok_mul (P := l.prog) (w := w) (base := base) F6 T B GF b15 (PySem.W.mg_of X G a15) k15 GN b1 MK
  have GIV := ok_inv (P := l.prog) (w := w) (base := base) F7 T B GN b1 MK
  have GD := ok_draw (P := l.prog) (w := w) (mg := mg) (base := base) F17 B
  have FN : MFns l.prog w K mg base C :=
    ⟨⟨_, _, ⟨a4, i4, k4⟩, ok_netMap F4 T B, b4⟩, ⟨_, _, ⟨a5, i5, k5⟩, ok_idMap F5 T B, b5⟩, ⟨_, _, ⟨a3, i3, k3⟩, ok_idOf F3 T B, b3⟩,
      ⟨_, _, ⟨a9, i9, k9⟩, ok_lenM F9 T B, b9⟩, ⟨_, ⟨a2, i2, fi⟩, fnR_of (ok_callM F2 T B) b2⟩, ⟨_, _, ⟨a10, i10, k10⟩, F10, b10⟩⟩
  exact ok_law F23 T B sf ⟨⟨_, _, PySem.W.mg_of X G a16, k16, ok_start F16 B, b16⟩⟩ ⟨⟨_, _, PySem.W.mg_of X G a17, k17, GD, b17⟩⟩
    ⟨⟨_, _, PySem.W.mg_of X G a18, k18, ok_names F18 B GD b17 (PySem.W.mg_of X G a17) k17, b18⟩⟩ ⟨⟨_, _, PySem.W.mg_of X G a19, k19, ok_map F19 B GD b17 (PySem.W.mg_of X G a17) k17, b19⟩⟩
    ⟨⟨_, _, PySem.W.mg_of X G a20, k20, ok_then F20, b20⟩⟩ ⟨⟨_, _, PySem.W.mg_of X G a21, k21, ok_back F21, b21⟩⟩ ⟨⟨_, _, PySem.W.mg_of X G a22, k22, ok_holds F22 T B FN, b22⟩⟩
    ⟨⟨_, _, ⟨a6, i6, k6⟩, GMU, b6⟩⟩ ⟨⟨_, _, ⟨a7, i7, k7⟩, GIV, b7⟩⟩
    ⟨⟨_, _, ⟨a4, i4, k4⟩, ok_netMap F4 T B, b4⟩⟩ ⟨⟨_, _, ⟨a5, i5, k5⟩, ok_idMap F5 T B, b5⟩⟩
    ⟨⟨a8, i8, k8⟩, ne, hm⟩ (ok_eqM F8 T B) (ok_eqD F8 T B) b8 ⟨a11, g11, t11, _, r11⟩ (ok_isId F11 T B) b11 MK ⟨_, GN, b1⟩ nf
theorem walk {l : PySem.W.OpenLaw} {q : Program} {loose : List Str} {XP : (Str → Option Value) → Heap → Prop} {YP : World → Heap → Prop} {d : DefRec} {K : Params → PySem.W.Frag} (hn : l.most = some 63) (hdf : d.params.defaults = [])
    (hY : ∀ (w : World) (h : Heap), YP w h → (K w.params).In h)
    (F : ∀ (w : World) (mg : Str → Option Value) (fa : Addr) (h : Heap), (K w.params).In h → h.Ns mainGlobals mg → mg d.name = some (.ref fa) →
      ∃ fd : FuncData, (∀ (s : Shared) (u : Value), BindsTo s fd ⟨[u], []⟩ [("_law_script", u)]) ∧ ∀ base : Heap, (K w.params).In base → base.Ns mainGlobals mg → FnOk l.prog w (K w.params) mg base CX0 8 fa fd ["_law_script"] (spLaw (K w.params))) :
    PySem.W.WalkO q loose XP YP l.row.toRowW d [] (fun f vs => PySem.call f vs) :=
  L2.walk_of (n := 63) (k := 8) (x := "_law_script") (CX := fun _ => CX0) (sp := fun w => spLaw (K w.params)) hn (by decide) hdf ⟨rfl, by decide, by decide⟩ hY F (fun _ _ a ns hl _ hS => ⟨a, ns, rfl, hS, fun _ => rfl⟩) fun _ _ _ _ _ z => z
end WW
open PySem PySem.W PyProof.Rows
set_option maxRecDepth 100000 in
set_option maxHeartbeats 0 in
theorem PySem.Challenge.cw_wishedwires_k36_matchings_multiplied_holds : PySem.Challenge.rw_wishedwires_k36_matchings_multiplied.Holds := by
  w_on; o_law; k_head; (case hw => w_witness2)
  k_fill
  refine WW.walk (l := PySem.Challenge.rw_wishedwires_k36_matchings_multiplied) rfl rfl (fun w h Y => PySem.W.kIn_of Y) ?F
  case F =>
    intro w mg fa h KX G hmg
    refine' WW.all_mk KX G hmg ?aC ?a1 ?i1 ?l1 ?c1 ?k1 ?a2 ?i2 ?l2 ?c2 ?k2 ?a3 ?i3 ?l3 ?c3 ?k3 ?a4 ?i4 ?l4 ?c4 ?k4 ?a5 ?i5 ?l5 ?c5 ?k5 ?a6 ?i6 ?l6 ?c6 ?k6 ?a7 ?i7 ?l7 ?c7 ?k7 ?a8 ?i8 ?l8 ?c8 ?k8 ?a9 ?i9 ?l9 ?c9 ?k9 ?a10 ?i10 ?l10 ?c10 ?k10 ?a11 ?g11 ?t11 ?r11 ?l11 ?c11 ?k11 ?a12 ?l12 ?c12 ?k12 ?a13 ?l13 ?c13 ?k13 ?a14 ?l14 ?c14 ?k14 ?a15 ?l15 ?c15 ?k15 ?a16 ?l16 ?c16 ?k16 ?a17 ?l17 ?c17 ?k17 ?a18 ?l18 ?c18 ?k18 ?a19 ?l19 ?c19 ?k19 ?a20 ?l20 ?c20 ?k20 ?a21 ?l21 ?c21 ?k21 ?a22 ?l22 ?c22 ?k22 ?a23 ?l23 ?c23 ?k23 ?pg ?hd ?po ?sa ?mk ?kc ?nN ?nI ?nP ?ha ?hn ?htk ?hm ?iC ?tC ?sD ?sf ?ne ?nf ?fi ?z_sorted ?z_str ?z_len ?z_isinstance ?z_all ?z_list ?z_dict ?z_range ?z_enumerate ?z_iter ?z_int
    (case aC => k_is)
    (case a1 => k_is)
    (case i1 => k_is)
    (case l1 => k_is)
    (case c1 => k_is)
    (case k1 => k_is)
    (case a2 => k_is)
    (case i2 => k_is)
    (case l2 => k_is)
    (case c2 => k_is)
    (case k2 => k_is)
    (case a3 => k_is)
    (case i3 => k_is)
    (case l3 => k_is)
    (case c3 => k_is)
    (case k3 => k_is)
    (case a4 => k_is)
    (case i4 => k_is)
    (case l4 => k_is)
    (case c4 => k_is)
    (case k4 => k_is)
    (case a5 => k_is)
    (case i5 => k_is)
    (case l5 => k_is)
    (case c5 => k_is)
    (case k5 => k_is)
    (case a6 => k_is)
    (case i6 => k_is)
    (case l6 => k_is)
    (case c6 => k_is)
    (case k6 => k_is)
    (case a7 => k_is)
    (case i7 => k_is)
    (case l7 => k_is)
    (case c7 => k_is)
    (case k7 => k_is)
    (case a8 => k_is)
    (case i8 => k_is)
    (case l8 => k_is)
    (case c8 => k_is)
    (case k8 => k_is)
    (case a9 => k_is)
    (case i9 => k_is)
    (case l9 => k_is)
    (case c9 => k_is)
    (case k9 => k_is)
    (case a10 => k_is)
    (case i10 => k_is)
    (case l10 => k_is)
    (case c10 => k_is)
    (case k10 => k_is)
    (case a11 => k_is)
    (case g11 => k_is)
    (case t11 => k_is)
    (case r11 => k_is)
    (case l11 => k_is)
    (case c11 => k_is)
    (case k11 => k_is)
    (case a12 => k_is)
    (case l12 => k_is)
    (case c12 => k_is)
    (case k12 => k_is)
    (case a13 => k_is)
    (case l13 => k_is)
    (case c13 => k_is)
    (case k13 => k_is)
    (case a14 => k_is)
    (case l14 => k_is)
    (case c14 => k_is)
    (case k14 => k_is)
    (case a15 => k_is)
    (case l15 => k_is)
    (case c15 => k_is)
    (case k15 => k_is)
    (case a16 => k_is)
    (case l16 => k_is)
    (case c16 => k_is)
    (case k16 => k_is)
    (case a17 => k_is)
    (case l17 => k_is)
    (case c17 => k_is)
    (case k17 => k_is)
    (case a18 => k_is)
    (case l18 => k_is)
    (case c18 => k_is)
    (case k18 => k_is)
    (case a19 => k_is)
    (case l19 => k_is)
    (case c19 => k_is)
    (case k19 => k_is)
    (case a20 => k_is)
    (case l20 => k_is)
    (case c20 => k_is)
    (case k20 => k_is)
    (case a21 => k_is)
    (case l21 => k_is)
    (case c21 => k_is)
    (case k21 => k_is)
    (case a22 => k_is)
    (case l22 => k_is)
    (case c22 => k_is)
    (case k22 => k_is)
    (case a23 => k_is)
    (case l23 => k_is)
    (case c23 => k_is)
    (case k23 => k_is)
    (case pg => k_is)
    (case hd => k_is)
    (case po => k_is)
    (case sa => k_is)
    (case mk => k_is)
    (case kc => k_is)
    (case nN => k_is)
    (case nI => k_is)
    (case nP => k_is)
    (case ha => k_is)
    (case hn => k_is)
    (case htk => k_is)
    (case hm => k_is)
    (case iC => k_is)
    (case tC => k_is)
    (case sD => k_is)
    (case sf => k_is)
    (case ne => k_is)
    (case nf => k_is)
    (case fi => k_is)
    (case z_sorted => k_is)
    (case z_str => k_is)
    (case z_len => k_is)
    (case z_isinstance => k_is)
    (case z_all => k_is)
    (case z_list => k_is)
    (case z_dict => k_is)
    (case z_range => k_is)
    (case z_enumerate => k_is)
    (case z_iter => k_is)
    (case z_int => k_is)
#print axioms PySem.Challenge.cw_wishedwires_k36_matchings_multiplied_holds
