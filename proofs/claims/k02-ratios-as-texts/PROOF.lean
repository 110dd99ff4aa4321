import PyProof.Rows.All
import Wide.All
import OpenK.AllK
import Wide.FinOn
import HandS.ForMost
import HandS.Walk
import HandS.DictComp
import HandS.IsInst
import HandS.More
import HandS.RaiseMore
import HandS.ForExc
import HandS.ExcInit
import HandS.ExcField
import HandS.TryMany
import HandS.Text
import HandS.Codes
import KE.IntTextText
import KE.IntTextLaws
import HandS.ListEq
import HandS.ExcOwn
import PyProof.NeKinds
import KE.KCallOwn
import HandS.StrMore
import HandS.Wide
import HandS.FStr
import HandS.Style
import HandS.Finally
import HandS.Defaults
import HandS.ExcIs
import PySem.Challenge.RW_wishedwires_k02_ratios_as_texts
set_option Elab.async false
set_option linter.all false
set_option maxRecDepth 100000
set_option maxHeartbeats 4000000
namespace WW
open PySem PySem.Spec PyProof.Rows L2
/-! ### texts in order -/
def leS (a b : Str) : Bool := !decide (b.cps.toList < a.cps.toList)
theorem leS_anti {a b : Str} (h1 : leS a b = true) (h2 : leS b a = true) : a = b := by
  unfold leS at h1 h2
  simp only [Bool.not_eq_true', decide_eq_false_iff_not] at h1 h2
  have e : a.cps.toList = b.cps.toList := List.le_antisymm (Std.not_lt.mp h1) (Std.not_lt.mp h2)
  cases a; cases b
  simp only [Str.mk.injEq]
  exact Array.toList_inj.mp e
theorem leS_trans {a b c : Str} (h1 : leS a b = true) (h2 : leS b c = true) : leS a c = true := by
  unfold leS at h1 h2 ⊢
  simp only [Bool.not_eq_true', decide_eq_false_iff_not] at h1 h2 ⊢
  exact Std.not_lt.mpr (List.le_trans (Std.not_lt.mp h1) (Std.not_lt.mp h2))
theorem leS_total (a b : Str) : (leS a b || leS b a) = true := by
  unfold leS
  by_cases h : b.cps.toList < a.cps.toList
  · have : ¬ a.cps.toList < b.cps.toList := fun h' => List.lt_irrefl _ (List.lt_trans h h')
    simp [this]
  · simp [h]
def sortS (l : List Str) : List Str := l.mergeSort leS
theorem sortS_perm (l : List Str) : (sortS l).Perm l := List.mergeSort_perm l leS
theorem sortS_pairwise (l : List Str) : (sortS l).Pairwise (fun a b => leS a b = true) := List.pairwise_mergeSort (le := leS) (fun a b c => leS_trans) leS_total l
theorem risingS_pw : ∀ (l : List Str) (p : Str), risingS p l = true → (p :: l).Pairwise (fun a b => leS a b = true)
  | [], p, _ => by simp
  | x :: r, p, h => by
    have h : (!ltCps x.cps.toList p.cps.toList && risingS x r) = true := h
    rw [Bool.and_eq_true] at h
    have ih := risingS_pw r x h.2
    have e : leS p x = true := by rw [ltCps_eq] at h; exact h.1
    refine List.pairwise_cons.mpr ⟨fun y hy => ?_, ih⟩
    rcases List.mem_cons.mp hy with rfl | hy
    · exact e
    · exact leS_trans e ((List.pairwise_cons.mp ih).1 y hy)
theorem sortedS_pw (l : List Str) (h : sortedS l = true) : l.Pairwise (fun a b => leS a b = true) := by
  cases l with
  | nil => simp
  | cons x r => exact risingS_pw r x h
theorem sortS_of {l ys : List Str} (p : ys.Perm l) (h : sortedS ys = true) : ys = sortS l := by
  refine List.Perm.eq_of_pairwise (le := fun a b => leS a b = true) (fun a b _ _ => leS_anti) (sortedS_pw ys h) (sortS_pairwise l) (p.trans (sortS_perm l).symm)
theorem sortS_congr {l m : List Str} (p : l.Perm m) : sortS l = sortS m :=
  List.Perm.eq_of_pairwise (le := fun a b => leS a b = true) (fun a b _ _ => leS_anti) (sortS_pairwise l) (sortS_pairwise m) ((sortS_perm l).trans (p.trans (sortS_perm m).symm))
theorem sortS_length (l : List Str) : (sortS l).length = l.length := (sortS_perm l).length_eq

/-! ### comprehensions whose turns leave the heap as it is -/
theorem upd_upd {H : Hp} {D : Addr} {o u : HO} : upd (upd H D o) D u = upd H D u := by
  funext b
  unfold upd
  by_cases h : b = D <;> simp [h]
theorem lcA {J : It} {n : Nat} {G : Hp → Prop} {Y : Nat → Hp → V → Hp → Prop} (w : Walk J n G Y) {g : TG} {tt : TT} {te : TE} {vs : List Nat} {σ : L2.St} {H1 : Hp} {D : Addr} {Qd : Hp → Prop} (A : Nat → List V) (h0 : A 0 = []) (hz : ∀ i, i < n → (A i).length < sizeLine)
    (hG : ∀ acc, G (upd H1 D (.lst acc)))
    (hs : ∀ i x H', i < n → Y i (upd H1 D (.lst (A i))) x H' → H' = upd H1 D (.lst (A i)) ∧ ∀ (R : V → Hp → Prop) (NX : Hp → Prop), (∀ y, A (i + 1) = A i ++ [y] → R y H') → (A (i + 1) = A i → NX H') →
      g x (wipe σ vs) H' fun σ2 H2 => wipe σ2 vs = wipe σ vs ∧ tt σ2 H2 fun b H3 => if b = true then te σ2 H3 R else NX H3)
    (hd : Qd (upd H1 D (.lst (A n)))) :
    ∃ W : Nat → Nat → Hp → Prop, (∃ m, W 0 m (upd H1 D (.lst []))) ∧ ∀ i m H, W i m H →
      (J.stop i H ∧ Qd H) ∨ (J.go i H ∧ ∃ Nx : Hp → Prop, (∀ H', Nx H' → ∃ m', m' < m ∧ W (i + 1) m' H') ∧ ∀ x H', J.yld i H x H' → g x (wipe σ vs) H' fun σ2 H2 => wipe σ2 vs = wipe σ vs ∧ tt σ2 H2 fun b H3 =>
        if b = true then te σ2 H3 fun y H4 => ∃ acc, H4 D = some (.lst acc) ∧ acc.length < sizeLine ∧ Nx (upd H4 D (.lst (acc ++ [y]))) else Nx H3) := by
  refine ⟨fun i m H => m = n - i ∧ i ≤ n ∧ H = upd H1 D (.lst (A i)), ⟨n, by simp, Nat.zero_le _, by rw [h0]⟩, ?_⟩
  rintro i m H ⟨rfl, hi, rfl⟩
  have q := hG (A i)
  by_cases hlt : i < n
  · refine .inr ⟨w.goes i _ hlt q, fun H' => H' = upd H1 D (.lst (A (i + 1))), fun H' p' => ⟨n - (i + 1), by omega, rfl, hlt, p'⟩, fun x H' y => ?_⟩
    obtain ⟨e, k⟩ := hs i x H' hlt (w.yields i _ x H' hlt q y)
    subst e
    exact k _ _ (fun y hy => ⟨A i, upd_same, hz i hlt, by rw [upd_upd, hy]⟩) (fun hy => by rw [hy])
  · have e : i = n := by omega
    subst e
    exact .inl ⟨w.stops _ q, hd⟩
/-- every item is kept -/
theorem lcM {J : It} {n : Nat} {G : Hp → Prop} {Y : Nat → Hp → V → Hp → Prop} (w : Walk J n G Y) {g : TG} {te : TE} {vs : List Nat} {σ : L2.St} {H1 : Hp} {D : Addr} {Qd : Hp → Prop} (ys : List V) (hn : ys.length = n) (hz : n < 1000)
    (hG : ∀ acc, G (upd H1 D (.lst acc)))
    (hs : ∀ i x y acc H', ys[i]? = some y → Y i (upd H1 D (.lst acc)) x H' → H' = upd H1 D (.lst acc) ∧ ∀ R : V → Hp → Prop, R y H' → g x (wipe σ vs) H' fun σ2 H2 => wipe σ2 vs = wipe σ vs ∧ te σ2 H2 R)
    (hd : Qd (upd H1 D (.lst ys))) :
    ∃ W : Nat → Nat → Hp → Prop, (∃ m, W 0 m (upd H1 D (.lst []))) ∧ ∀ i m H, W i m H →
      (J.stop i H ∧ Qd H) ∨ (J.go i H ∧ ∃ Nx : Hp → Prop, (∀ H', Nx H' → ∃ m', m' < m ∧ W (i + 1) m' H') ∧ ∀ x H', J.yld i H x H' → g x (wipe σ vs) H' fun σ2 H2 => wipe σ2 vs = wipe σ vs ∧ tYes σ2 H2 fun b H3 =>
        if b = true then te σ2 H3 fun y H4 => ∃ acc, H4 D = some (.lst acc) ∧ acc.length < sizeLine ∧ Nx (upd H4 D (.lst (acc ++ [y]))) else Nx H3) := by
  refine lcA w (fun i => ys.take i) (by simp) (fun i hi => small1000 (by rw [List.length_take]; omega)) hG (fun i x H' hi hy => ?_) (by show Qd (upd H1 D (.lst (ys.take n))); rw [List.take_of_length_le (by omega)]; exact hd)
  have hi' : i < ys.length := by omega
  obtain ⟨e, k⟩ := hs i x ys[i] _ H' (by simp [hi']) hy
  refine ⟨e, fun R NX h1 h2 => ?_⟩
  have := k R (h1 ys[i] (by rw [List.take_succ_eq_append_getElem hi']))
  unfold tYes
  simpa using this
end WW
namespace WE
open PySem PySem.Spec PyProof.Rows L2
/-! ### errors with what is given: class X(W): def __init__(self, given): W.__init__(self, given); self.given = given -/
/-- what the written part says of the class W above, which has no __init__ of its own -/
structure UpTxt (K : PySem.W.Frag) (mg : Str → Option Value) (x : Str) (W : Addr) : Prop where
  gW : mg x = some (.ref W)
  rd : PySem.W.readsIn K W (.type "type") = true
  ga : PySem.W.specialIn K (.ref W) "__getattribute__" = some (some (.builtin "type.__getattribute__"))
  iW : PySem.W.findCls K (.ref W) (.type "type") "__init__" = some (.val (.builtin "ValueError.__init__"))
section
variable {X : Cx} {e : Expr} {es : List Expr} {ta : TA} {p1 p2 pos : Pos} {x : Str} {W : Addr}
theorem pe_weinit {pl : Sem Bool} (hg : Gl X x) (U : UpTxt X.K X.mg x W) (ha : PA X (e :: es) ta) (hdb : (x == ("__debug__" : Str)) = false := by decide)
    (hc : eval (.Call (.Attribute (.Name x p1) "__init__" p2) (e :: es) [] pos) X.env = (do
      let ov ← eval (.Name x p1) X.env
      standAt p2.atName
      let (f, first) ← holding [ov] (getMethod ov "__init__" pl)
      callWith pos f first (backTo pos (starEach (e :: es) X.env)) (backToKw pos (keywordEach [] X.env))) := by rfl)
    (he : starEach (e :: es) X.env = (false, eval e X.env) :: starEach es X.env := by rfl) (hpl : (backTo pos (starEach es X.env)).any (·.1) = false := by rfl) :
    PE X (.Call (.Attribute (.Name x p1) "__init__" p2) (e :: es) [] pos) (tVeI X.K ta) := by
  refine ⟨fun pins s σ H Q I h => ?_⟩
  refine PySem.W.methodCall_KW (ld_glob I hg U.gW ?_ hdb) hc
  refine PySem.W.method_cls I.kIn U.ga (PySem.W.cls_value I.kIn U.rd U.iW (by decide +kernel) ?_)
  show wpAny _ _ (callWith pos (Value.builtin "ValueError.__init__") [] (backTo pos (starEach (e :: es) X.env)) []) _ _ _
  refine PyProof.Rows.callWith_method1 (thn (ha.run pos pins _ σ H _ (I.tok _) h) fun us s1 ⟨vs, H1, I1, r1, a, C, ws, ev, hl, T, ea, q⟩ => ?_) he hpl
  subst ev
  cases r1 with
  | @cons _ u0 _ ur ra rw' =>
    obtain rfl : u0 = Value.ref a := ra
    have hlen : ur.length ≤ sizeLine := by
      rw [← Paired.length rw', sizeLine_eq]
      omega
    exact oinit_ok T I1 ea hlen fun s' J => ⟨.non, H1, J, rfl, q⟩
end
/-- the __init__'s promise -/
def spErr (C : Addr) : Sp := fun vs H Q _ => ∃ (a : Addr) (v : V), vs = [.ref a, v] ∧ H a = some (exo a C none) ∧ ∀ dx, H dx = none → dx ≠ a → Q .non (upd (upd H dx (exd dx [("given", v)])) a (exo a C (some dx)))
section
variable {P : Program} {w : World} {K : PySem.W.Frag} {mg : Str → Option Value} {base : Heap} {f C W : Addr} {fd : FuncData}
theorem err_made {H1 : Hp} {v : V} {Q : XK} (h : ∀ d, H1 d = none → Q (.ref C) (some d) (upd H1 d (.xd [("given", v)]))) :
    [v].length ≤ 1000 ∧ ∀ a, H1 a = none → spErr C (.ref a :: ([v] ++ [])) (upd H1 a (exo a C none)) (fun u H2 => u = .non ∧ ∃ (d : Addr) (fs : List (Str × V)), H2 a = some (exo a C (some d)) ∧ H2 d = some (exd d fs) ∧ H1 d = none ∧ Q (.ref C) (some d) (upd (del H2 a) d (.xd fs))) (fun _ _ _ => False) := by
  refine ⟨by show 1 ≤ 1000; decide, fun a ha => ⟨a, v, rfl, upd_same, fun dx hdx ne => ⟨rfl, dx, _, upd_same, by rw [upd_ne ne, upd_same], ?_, ?_⟩⟩⟩
  · rw [upd_ne ne] at hdx
    exact hdx
  · have hdx' : H1 dx = none := by rw [upd_ne ne] at hdx; exact hdx
    have e : upd (del (upd (upd (upd H1 a (exo a C none)) dx (exd dx [("given", v)])) a (exo a C (some dx))) a) dx (.xd [("given", v)]) = upd H1 dx (.xd [("given", v)]) := by
      funext b
      by_cases hb : b = dx
      · rw [hb, upd_same, upd_same]
      · rw [upd_ne hb, upd_ne hb]
        by_cases hba : b = a
        · rw [hba, del_same, ha]
        · rw [del_ne hba, upd_ne hba, upd_ne hb, upd_ne hba]
    rw [e]
    exact h dx hdx'
end
end WE
namespace QQ
open PySem SX
/-! ### texts of ratios, by their signs -/
theorem pre_one (c d : Nat) (r : List Nat) : TL.pre [c] (d :: r) = decide (d = c) := by
  unfold TL.pre
  by_cases h : d = c
  · subst h; simp
  · simp [h]
theorem joinL_cons {c : Nat} {p : List Nat} {ps : List (List Nat)} (h : ps ≠ []) : TL.joinL [c] (p :: ps) = p ++ (c :: TL.joinL [c] ps) := by
  cases ps with
  | nil => exact absurd rfl h
  | cons q r => rfl
theorem spl_ne (c : Nat) : ∀ (l acc : List Nat), TL.spl [c] 0 acc l ≠ []
  | [], acc => by rw [TL.spl_nil]; simp
  | d :: r, acc => by
    by_cases h : d = c
    · rw [TL.spl_hit (by rw [pre_one]; exact decide_eq_true h)]
      simp
    · rw [TL.spl_miss (by rw [pre_one]; exact decide_eq_false h)]
      exact spl_ne c r _
theorem join_spl (c : Nat) : ∀ (l acc : List Nat), TL.joinL [c] (TL.spl [c] 0 acc l) = acc ++ l
  | [], acc => by rw [TL.spl_nil]; simp [TL.joinL]
  | d :: r, acc => by
    by_cases h : d = c
    · rw [TL.spl_hit (by rw [pre_one]; exact decide_eq_true h)]
      have e := join_spl c r []
      show TL.joinL [c] (acc :: TL.spl [c] 0 [] r) = _
      rw [joinL_cons (spl_ne c r []), e, h]
      rfl
    · rw [TL.spl_miss (by rw [pre_one]; exact decide_eq_false h), join_spl c r]
      simp
theorem app_split {c : Nat} {a b a' b' : List Nat} (h : c ∉ a) (h' : c ∉ a') (e : a ++ c :: b = a' ++ c :: b') : a = a' ∧ b = b' := by
  have e1 := TL.par_part1 (s := c) (S := []) (p := a) (rest := b) (acc := []) h
  have e2 := TL.par_part1 (s := c) (S := []) (p := a') (rest := b') (acc := []) h'
  have e3 : a ++ ([c] ++ b) = a' ++ ([c] ++ b') := e
  rw [e3] at e1
  have := e1.symm.trans e2
  simp only [List.nil_append, Option.some.injEq, Prod.mk.injEq] at this
  exact this
def dig (c : Nat) : Bool := decide (48 ≤ c) && decide (c ≤ 57)
def plainL (a : List Nat) : Bool := !a.isEmpty && (a.all dig && (decide (a = [48]) || !decide (a.head? = some 48)))
abbrev nv (a : List Nat) : Nat := NumText.digitsVal a
theorem allD {a : List Nat} (h : a.all dig = true) : NumText.AllDigits a := fun c hc => by
  have := List.all_eq_true.mp h c hc
  unfold dig at this
  simpa using this
theorem plain_parts {a : List Nat} (h : plainL a = true) : a ≠ [] ∧ a.all dig = true ∧ (a = [48] ∨ a.head? ≠ some 48) := by
  unfold plainL at h
  simp only [Bool.and_eq_true, Bool.not_eq_true', Bool.or_eq_true, decide_eq_true_eq, decide_eq_false_iff_not, List.isEmpty_eq_false_iff] at h
  exact h
theorem plain_num {a : List Nat} (h : plainL a = true) : TL.numL (nv a) = a := by
  obtain ⟨h1, h2, h3⟩ := plain_parts h
  have hd := allD h2
  cases a with
  | nil => exact absurd rfl h1
  | cons c r =>
    have e := NumText.toDigits_digitsVal r.length (c :: r) (by simp) hd (by
      rcases h3 with h3 | h3
      · left
        have := congrArg List.length h3
        simpa using this
      · right
        refine ⟨c, r, rfl, ?_⟩
        have hc := hd.head
        have : c ≠ 48 := fun z => h3 (by rw [z]; rfl)
        omega)
    unfold TL.numL
    rw [e, List.map_map]
    conv => rhs; rw [← List.map_id (c :: r)]
    refine List.map_congr_left fun x hx => ?_
    have hx := hd x hx
    show (Char.ofNat x).toNat = x
    have : x.isValidChar := Or.inl (by omega)
    rw [Char.ofNat, dif_pos this]
    simp [Char.toNat, Char.ofNatAux]
theorem plain_int {a : List Nat} (h : plainL a = true) (hl : a.length ≤ 640) : PySem.intText? (S a) = some (nv a : Int) := by
  obtain ⟨h1, h2, h3⟩ := plain_parts h
  exact int_S h2 h1 (by omega)
theorem plain_free {a : List Nat} (h : plainL a = true) {c : Nat} (hc : c < 48 ∨ 57 < c) : c ∉ a := fun hm => by
  have := allD (plain_parts h).2.1 c hm
  omega
def neg (t : List Nat) : Bool := decide (t.head? = some 45)
def rst (t : List Nat) : List Nat := if neg t = true then t.drop 1 else t
def wds (t : List Nat) : List (List Nat) := TL.spl [47] 0 [] (rst t)
def okW (w : List Nat) : Bool := plainL w && decide (w.length ≤ 60)
def okT (t : List Nat) : Bool := decide ((wds t).length ≤ 2) && (wds t).all okW
def v0 (t : List Nat) : Nat := nv ((wds t).headD [])
def v1 (t : List Nat) : Nat := match wds t with
  | [_, w] => nv w
  | _ => 1
def sg (t : List Nat) : Int := if neg t = true then -1 else 1
def rd (t : List Nat) : Option (Int × Int) := if okT t = true then (if v1 t = 0 then none else some (sg t * v0 t, v1 t)) else none
def intL (p : Int) : List Nat := if p < 0 then 45 :: TL.numL p.natAbs else TL.numL p.natAbs
def sgn (q : Int) : Int := if q < 0 then -1 else 1
def lowP (p q : Int) : Int × Int := (sgn q * (p / (Int.gcd p q : Int)), sgn q * (q / (Int.gcd p q : Int)))
def strR (r : Int × Int) : List Nat := if r.2 = 1 then intL r.1 else intL r.1 ++ 47 :: intL r.2
def told (t : List Nat) : Option (Int × Int) := match rd t with
  | none => none
  | some (p, q) => if strR (lowP p q) = t then some (lowP p q) else none
def due (t : List Nat) : Option (Int × Int) := if okT t = true then
    (if neg t = true ∧ v0 t = 0 then none else if (wds t).length = 1 then some (v0 t * sg t, 1) else if (decide (v1 t < 2) || !(Nat.gcd (v0 t) (v1 t) == 1)) = true then none else some (v0 t * sg t, (v1 t : Int)))
  else none
theorem intL_nat (n : Nat) : intL (n : Int) = TL.numL n := by
  unfold intL
  rw [if_neg (by omega), Int.natAbs_natCast]
theorem intL_free (p : Int) : 47 ∉ intL p := by
  unfold intL
  split
  · intro h
    rcases List.mem_cons.mp h with h | h
    · omega
    · exact TL.numL_free (by omega) h
  · exact TL.numL_free (by omega)
theorem rst_eq (t : List Nat) : t = (if neg t = true then [45] else []) ++ rst t := by
  unfold rst
  by_cases h : neg t = true
  · rw [if_pos h, if_pos h]
    unfold neg at h
    have := of_decide_eq_true h
    cases t with
    | nil => cases this
    | cons c r => cases this; rfl
  · rw [if_neg h, if_neg h]; rfl
theorem pre_free (t : List Nat) {w : List Nat} (h : plainL w = true) : 47 ∉ (if neg t = true then [45] else []) ++ w := by
  intro z
  rcases List.mem_append.mp z with z | z
  · split at z
    · simp at z
    · simp at z
  · exact plain_free h (by omega) z
theorem told_some {t : List Nat} {p q : Int} (h : rd t = some (p, q)) (e : strR (lowP p q) = t) : told t = some (lowP p q) := by
  unfold told
  rw [h]
  exact if_pos e
theorem told_no {t : List Nat} {p q : Int} (h : rd t = some (p, q)) (e : strR (lowP p q) ≠ t) : told t = none := by
  unfold told
  rw [h]
  exact if_neg e
theorem told_none {t : List Nat} (h : rd t = none) : told t = none := by
  unfold told
  rw [h]
theorem rd_some {t : List Nat} (h : okT t = true) (h1 : v1 t ≠ 0) : rd t = some (sg t * v0 t, (v1 t : Int)) := by
  unfold rd
  rw [if_pos h, if_neg h1]
theorem rd_zero {t : List Nat} (h1 : v1 t = 0) : rd t = none := by
  unfold rd
  split
  · first | rfl | rw [if_pos h1]
  · rfl
theorem due_zero {t : List Nat} (hn : neg t = true) (hz : v0 t = 0) : due t = none := by
  unfold due
  split
  · rw [if_pos ⟨hn, hz⟩]
  · rfl
theorem due_one {t : List Nat} (h : okT t = true) (hz : ¬ (neg t = true ∧ v0 t = 0)) (hl : (wds t).length = 1) : due t = some (v0 t * sg t, 1) := by
  unfold due
  rw [if_pos h, if_neg hz, if_pos hl]
theorem due_low {t : List Nat} (hl : (wds t).length ≠ 1) (hg : v1 t < 2 ∨ Nat.gcd (v0 t) (v1 t) ≠ 1) : due t = none := by
  unfold due
  split
  · split
    · rfl
    · first | rw [if_neg hl, if_pos] | rw [if_pos]
      rcases hg with hg | hg
      · rw [decide_eq_true hg]; rfl
      · rw [show (Nat.gcd (v0 t) (v1 t) == 1) = false from beq_eq_false_iff_ne.mpr hg]; simp
  · rfl
theorem due_two {t : List Nat} (h : okT t = true) (hz : ¬ (neg t = true ∧ v0 t = 0)) (hl : (wds t).length ≠ 1) (h2 : ¬ v1 t < 2) (hg : Nat.gcd (v0 t) (v1 t) = 1) : due t = some (v0 t * sg t, (v1 t : Int)) := by
  unfold due
  rw [if_pos h, if_neg hz, if_neg hl, if_neg]
  rw [decide_eq_false h2, hg]
  simp
theorem told_due (t : List Nat) : told t = due t := by
  by_cases hok : okT t = true
  · have hok' := hok
    unfold okT at hok'
    rw [Bool.and_eq_true, decide_eq_true_eq, List.all_eq_true] at hok'
    obtain ⟨hl, hw⟩ := hok'
    have hj : TL.joinL [47] (wds t) = rst t := by unfold wds; rw [join_spl]; rfl
    have ht := rst_eq t
    rw [← hj] at ht
    have hne : wds t ≠ [] := spl_ne _ _ _
    have pl : ∀ w ∈ wds t, plainL w = true := fun w h => (Bool.and_eq_true_iff.mp (hw w h)).1
    match hws : wds t, hne, hl with
    | [w0], _, _ =>
      have p0 := pl w0 (by rw [hws]; simp)
      have e0 : v0 t = nv w0 := by unfold v0; rw [hws]; rfl
      have e1 : v1 t = 1 := by unfold v1; rw [hws]
      have n0 := plain_num p0
      rw [hws] at ht
      have ht' : t = (if neg t = true then [45] else []) ++ w0 := ht
      have hrd := rd_some hok (by rw [e1]; decide)
      rw [e1] at hrd
      have el : lowP (sg t * v0 t) ((1 : Nat) : Int) = (sg t * v0 t, 1) := by
        unfold lowP
        have : Int.gcd (sg t * (v0 t : Int)) ((1 : Nat) : Int) = 1 := by simp
        rw [this]
        simp [sgn]
      have es : strR (lowP (sg t * v0 t) ((1 : Nat) : Int)) = intL (sg t * v0 t) := by rw [el]; unfold strR; rw [if_pos rfl]
      have hl1 : (wds t).length = 1 := by rw [hws]; rfl
      by_cases hn : neg t = true
      · have esg : sg t = -1 := by unfold sg; rw [if_pos hn]
        rw [if_pos hn] at ht'
        by_cases hz : v0 t = 0
        · rw [due_zero hn hz, told_no hrd]
          rw [es, hz, esg]
          intro z
          rw [ht'] at z
          have : intL ((-1 : Int) * ((0 : Nat) : Int)) = [48] := by decide +kernel
          rw [this] at z
          cases z
        · have : intL (sg t * v0 t) = t := by
            unfold intL
            rw [esg, if_pos (by omega), show ((-1 : Int) * (v0 t : Int)).natAbs = v0 t by omega, e0, n0, ← List.singleton_append]
            exact ht'.symm
          rw [told_some hrd (es.trans this), el, due_one hok (fun z => hz z.2) hl1, Int.mul_comm]
      · have esg : sg t = 1 := by unfold sg; rw [if_neg hn]
        rw [if_neg hn] at ht'
        have : intL (sg t * v0 t) = t := by
          rw [esg, Int.one_mul, intL_nat, e0, n0]
          exact ht'.symm
        rw [told_some hrd (es.trans this), el, due_one hok (fun z => hn z.1) hl1, Int.mul_comm]
    | [w0, w1], _, _ =>
      have p0 := pl w0 (by rw [hws]; simp)
      have p1 := pl w1 (by rw [hws]; simp)
      have e0 : v0 t = nv w0 := by unfold v0; rw [hws]; rfl
      have e1 : v1 t = nv w1 := by unfold v1; rw [hws]
      have n0 := plain_num p0
      have n1 := plain_num p1
      rw [hws] at ht
      have ht' : t = ((if neg t = true then [45] else []) ++ w0) ++ 47 :: w1 := by
        rw [List.append_assoc]
        exact ht
      have hfree := pre_free t p0
      have hhas : 47 ∈ t := by rw [ht']; simp
      have hl2 : (wds t).length ≠ 1 := by rw [hws]; simp
      by_cases h0 : v1 t = 0
      · rw [told_none (rd_zero h0), due_low hl2 (.inl (by omega))]
      have hrd := rd_some hok h0
      have hsg : sg t = 1 ∨ sg t = -1 := by unfold sg; split <;> simp
      have hg : Int.gcd (sg t * (v0 t : Int)) (v1 t : Int) = Nat.gcd (v0 t) (v1 t) := by
        rw [Int.gcd, Int.natAbs_mul, Int.natAbs_natCast, Int.natAbs_natCast]
        rcases hsg with h | h <;> rw [h] <;> simp
      have hq : (v1 t : Int) / (Nat.gcd (v0 t) (v1 t) : Int) = ((v1 t / Nat.gcd (v0 t) (v1 t) : Nat) : Int) := by omega
      have esq : sgn (v1 t : Int) = 1 := by unfold sgn; rw [if_neg (by omega)]
      have el : lowP (sg t * v0 t) (v1 t : Int) = ((sg t * v0 t) / (Nat.gcd (v0 t) (v1 t) : Int), ((v1 t / Nat.gcd (v0 t) (v1 t) : Nat) : Int)) := by
        unfold lowP
        rw [hg, esq, Int.one_mul, Int.one_mul, hq]
      by_cases hg1 : Nat.gcd (v0 t) (v1 t) = 1
      · rw [hg1] at el
        by_cases h2 : v1 t < 2
        · have h1 : v1 t = 1 := by omega
          rw [due_low hl2 (.inl h2), told_no hrd]
          intro z
          rw [el] at z
          have : strR ((sg t * (v0 t : Int)) / ((1 : Nat) : Int), ((v1 t / 1 : Nat) : Int)) = intL ((sg t * (v0 t : Int)) / ((1 : Nat) : Int)) := by
            unfold strR
            rw [if_pos (by rw [h1]; rfl)]
          rw [this] at z
          rw [← z] at hhas
          exact intL_free _ hhas
        · have hv0 : v0 t ≠ 0 := fun z => by
            rw [z, Nat.gcd_zero_left] at hg1
            omega
          have ed : (sg t * (v0 t : Int)) / ((1 : Nat) : Int) = sg t * v0 t := by simp
          rw [ed, Nat.div_one] at el
          have hp : intL (sg t * (v0 t : Int)) = (if neg t = true then [45] else []) ++ w0 := by
            by_cases hn : neg t = true
            · have esg : sg t = -1 := by unfold sg; rw [if_pos hn]
              unfold intL
              rw [if_pos hn, esg, if_pos (by omega), show ((-1 : Int) * (v0 t : Int)).natAbs = v0 t by omega, e0, n0]
              rfl
            · have esg : sg t = 1 := by unfold sg; rw [if_neg hn]
              rw [if_neg hn, esg, Int.one_mul, intL_nat, e0, n0]
              rfl
          have : strR (lowP (sg t * v0 t) (v1 t : Int)) = t := by
            rw [el]
            unfold strR
            rw [if_neg (by show ¬ (v1 t : Int) = 1; omega), hp, intL_nat, e1, n1]
            exact ht'.symm
          rw [told_some hrd this, el, due_two hok (fun z => hv0 z.2) hl2 h2 hg1, Int.mul_comm]
      · rw [due_low hl2 (.inr hg1), told_no hrd]
        intro z
        rw [el] at z
        unfold strR at z
        split at z
        · rw [← z] at hhas
          exact intL_free _ hhas
        · have z' := z.trans ht'
          have := (app_split (intL_free _) hfree z').2
          have q1 : TL.numL (v1 t / Nat.gcd (v0 t) (v1 t)) = TL.numL (v1 t) := by
            rw [← intL_nat]
            refine this.trans ?_
            rw [e1, n1]
          have q2 := TL.numL_inj q1
          have hgp : 0 < Nat.gcd (v0 t) (v1 t) := Nat.gcd_pos_of_pos_right _ (by omega)
          have : v1 t / Nat.gcd (v0 t) (v1 t) < v1 t := Nat.div_lt_self (by omega) (by omega)
          omega
    | [], h, _ => exact absurd rfl h
    | a :: b :: c :: r, _, h => simp at h
  · rw [told_none (by unfold rd; rw [if_neg hok])]
    unfold due
    rw [if_neg hok]
end QQ
namespace QQ
open PySem PySem.Spec PyProof.Rows L2
/-! ### == and != of lists, element by element by what the elements are -/
/-- no bytes, no float -/
def plainV : V → Bool
  | .flt _ => false
  | .byt _ => false
  | _ => true
theorem eqAt_same {A : Around} {s : Shared} {v : V} {u w : Value} (h : plainV v = true) (r1 : RelV v u) (r2 : RelV v w) : SeqAt.EqAt A s u w true := by
  cases v with
  | flt _ => cases h
  | byt _ => cases h
  | non => cases r1; cases r2; exact SeqAt.EqAt.same _
  | bl _ => cases r1; cases r2; exact SeqAt.EqAt.same _
  | ref _ => cases r1; cases r2; exact SeqAt.EqAt.same _
  | ty _ => cases r1; cases r2; exact SeqAt.EqAt.same _
  | int i =>
    obtain ⟨t, rfl⟩ := r1
    obtain ⟨t', rfl⟩ := r2
    have := SeqAt.EqAt.int_int (A := A) (s := s) i t i t'
    rw [beq_self_eq_true] at this
    exact this
  | str i =>
    obtain ⟨t, rfl⟩ := r1
    obtain ⟨t', rfl⟩ := r2
    have := SeqAt.EqAt.str_str (A := A) (s := s) i t i t'
    rw [beq_self_eq_true] at this
    exact this
theorem vals_at : ∀ {xs : List V} {us : List Value}, Vals xs us → us.length = xs.length ∧ ∀ (i : Nat) (x : V), xs[i]? = some x → ∃ u, us[i]? = some u ∧ RelV x u
  | [], [], .nil => ⟨rfl, fun i x h => by simp at h⟩
  | x :: xs, u :: us, .cons h t => by
    obtain ⟨l, k⟩ := vals_at t
    refine ⟨by simp [l], fun i y hy => ?_⟩
    cases i with
    | zero => cases hy; exact ⟨u, rfl, h⟩
    | succ i => exact k i y hy
section
variable {X : Cx}
/-- two lists of the same values -/
def rSameL (K : PySem.W.Frag) (b : Bool) : R2 := fun x y H Q => ∃ (l r : Addr) (xs : List V), x = .ref l ∧ y = .ref r ∧ SqL K H l xs ∧ SqL K H r xs ∧ (∀ v ∈ xs, plainV v = true) ∧ Q (.bl b) H
theorem same_els {A : Around} {s : Shared} {xs : List V} {us ws : List Value} (hp : ∀ v ∈ xs, plainV v = true) (r1 : Vals xs us) (r2 : Vals xs ws) : ∀ j (h1 : j < us.toArray.size) (h2 : j < ws.toArray.size), SeqAt.EqAt A s us.toArray[j] ws.toArray[j] true := by
  intro j h1 h2
  obtain ⟨l1, k1⟩ := vals_at r1
  obtain ⟨l2, k2⟩ := vals_at r2
  have g : j < xs.length := by simpa [l1] using h1
  obtain ⟨u, hu, ru⟩ := k1 j xs[j] (by simp [g])
  obtain ⟨w, hw, rw'⟩ := k2 j xs[j] (by simp [g])
  have a1 : us.toArray[j] = u := by
    rw [List.getElem?_eq_getElem (by omega)] at hu
    simpa using Option.some.inj hu
  have a2 : ws.toArray[j] = w := by
    rw [List.getElem?_eq_getElem (by omega)] at hw
    simpa using Option.some.inj hw
  rw [a1, a2]
  exact eqAt_same (hp _ (List.getElem_mem g)) ru rw'
theorem op_eqSame (hu : X.A.units < cLine) : OpR X (compareOp .Eq) (rSameL X.K true) := by
  intro pins s σ H x y v u Q I rx ry h
  obtain ⟨l, r, xs, rfl, rfl, hl, hr, hp, q⟩ := h
  obtain rfl : v = Value.ref l := rx
  obtain rfl : u = Value.ref r := ry
  obtain ⟨us, rv, p, hz⟩ := I.list hl
  obtain ⟨ws, rw', p', hz'⟩ := I.list hr
  obtain ⟨l1, k1⟩ := vals_at rv
  obtain ⟨l2, k2⟩ := vals_at rw'
  refine SeqAt.eq_listAt (e := fun j => true) p.isList p'.isList (by simp [l1, l2]) hu (same_els hp rv rw') (fin_bl I q ?_)
  simp
theorem op_neSame (hu : X.A.units < cLine) : OpR X (compareOp .NotEq) (rSameL X.K false) := by
  intro pins s σ H x y v u Q I rx ry h
  obtain ⟨l, r, xs, rfl, rfl, hl, hr, hp, q⟩ := h
  obtain rfl : v = Value.ref l := rx
  obtain rfl : u = Value.ref r := ry
  obtain ⟨us, rv, p, hz⟩ := I.list hl
  obtain ⟨ws, rw', p', hz'⟩ := I.list hr
  obtain ⟨l1, k1⟩ := vals_at rv
  obtain ⟨l2, k2⟩ := vals_at rw'
  refine SeqAt.RcNeAt.lists (e := fun j => true) p.isList p'.isList (by simp [l1, l2]) hu (same_els hp rv rw') _ _ _ _ (fin_bl I q ?_)
  simp
end
/-! ### str(o) by an own __str__ -/
section
variable {X : Cx} {CX : CXT} {k : Nat} {f C : Addr} {fd : FuncData} {ps : List Str} {sp : Sp} {E : XK}
def rStrO (C : Addr) (sp : Sp) (E : XK) : List V → Hp → VK → Prop := fun xs H Q => ∃ (a dx : Addr) (fs : List (Str × V)), xs = [.ref a] ∧ H a = some (.ins C dx fs) ∧ sp [.ref a] H (fun v H' => ∃ n : Str, v = .str n ∧ Q (.str n) H') E
theorem call_strO (hm : Meth X.K C "__str__" f) (F : FnOk X.prog X.w X.K X.mg X.base CX k f fd ps sp) (hr : Room (k + 2) X.A) (hb : L2.Binds X.K fd ps []) (hx : Passes CX X E) : CallR X (.type "str") (rStrO C sp E) := by
  intro pins s σ H xs us Q I r h
  obtain ⟨a, dx, fs, rfl, ha, h⟩ := h
  obtain ⟨u, rfl, ru⟩ := vals1 r
  cases ru
  obtain ⟨mA, J, _⟩ := ins_get I.hok ha
  obtain ⟨od, J, _⟩ := J.look
  have hr2 : Room k X.A.in1.in1 := (show Room (k + 1) X.A.in1 from Room.in1 hr).in1
  refine PySem.W.kso_call hr2.units0 I.kIn J hm.at_ hm.fn ?_
  have hl := F.len _ _ _ _ h
  refine wpAny_call (codeAny_mono (F.run X.A.in1.in1 X.stack s H ⟨[.ref a], []⟩ [.ref a] [.ref a] _ E hr2 I.env0.in1.in1 (by
    have := hb s [.ref a] I.kIn (by simpa using hl)
    simpa using this) (.cons rfl .nil) h) fun r s' hq => ?_)
  cases r with
  | error e => exact hx pins σ H s e s' I hq
  | ok fl =>
    cases fl with
    | ret w =>
      obtain ⟨v, H', I', rv, n, rfl, q⟩ := I.after hq
      obtain ⟨t, rfl⟩ := rv
      exact ⟨.str n, H', I', ⟨_, rfl⟩, q⟩
    | next => exact False.elim hq
    | brk => exact False.elim hq
    | cont => exact False.elim hq
end
/-! ### C.m(e, ..), m a staticmethod that may raise -/
structure StatOf (K : PySem.W.Frag) (C : Addr) (m : Str) (p f : Addr) : Prop where
  rd : PySem.W.readsIn K C (.type "type") = true
  ga : PySem.W.specialIn K (.ref C) "__getattribute__" = some (some (.builtin "type.__getattribute__"))
  at_ : PySem.W.findCls K (.ref C) (.type "type") m = some (.get (.builtin "staticmethod.__get__") (.ref p) .none (.ref C))
  rc : ∃ rest, PySem.W.recIn K p "staticmethod" = some (.ref f :: rest)
  kp : PySem.W.keepIn K (.ref f) = true
section
variable {X : Cx} {CX : CXT} {k : Nat} {f C q : Addr} {fd : FuncData} {ps : List Str} {sp : Sp} {E : L2.St → XK} {x m : Str} {p1 p2 pos : Pos} {e : Expr} {es : List Expr} {t : TA}
theorem pe_static {pl : Sem Bool} (hg : Gl X x) (hm : X.mg x = some (.ref C)) (S : StatOf X.K C m q f) (F : FnOk X.prog X.w X.K X.mg X.base CX k f fd ps sp) (hr : Room k X.A) (hb : L2.Binds X.K fd ps []) (hx : ∀ σ, PassesAt CX X σ (E σ)) (ha : PA X (e :: es) t) (hdb : (x == ("__debug__" : Str)) = false := by decide)
    (hc : eval (.Call (.Attribute (.Name x p1) m p2) (e :: es) [] pos) X.env = (do
      let ov ← eval (.Name x p1) X.env
      standAt p2.atName
      let (f, first) ← holding [ov] (getMethod ov m pl)
      callWith pos f first (backTo pos (starEach (e :: es) X.env)) (backToKw pos (keywordEach [] X.env))) := by rfl)
    (he : starEach (e :: es) X.env = (false, eval e X.env) :: starEach es X.env := by rfl) (hpl : (backTo pos (starEach es X.env)).any (·.1) = false := by rfl) :
    PE X (.Call (.Attribute (.Name x p1) m p2) (e :: es) [] pos) (tCallS sp E t) := by
  refine ⟨fun pins s σ H Q I h => ?_⟩
  refine PySem.W.methodCall_KW (ld_glob I hg hm ?_ hdb) hc
  obtain ⟨rest, hrc⟩ := S.rc
  refine PySem.W.method_cls I.kIn S.ga (PySem.W.cls_bind I.kIn S.rd S.at_ (wpAny_call (PySem.W.sm_get I.kIn hrc (PySem.W.handed_on rfl ?_))))
  refine PySem.W.callWith_K (first := []) (h₀ := X.base) I.ok.mod.kin S.kp (thn (ha.run pos pins _ σ H _ (I.tok _) h) fun us s2 ⟨vs, H2, I2, r, q2⟩ => ⟨I2.kIn, ?_⟩) he hpl
  exact run_fnS (us := us) (vs := vs) F hr hb (hx σ) I2 r q2
end
end QQ
namespace QQ
open PySem SX
/-! ### the program's words on texts, by their signs -/
theorem int_text (p : Int) : Str.ofString (toString p) = S (intL p) := by
  by_cases h : p < 0
  · obtain ⟨n, rfl⟩ : ∃ n, p = Int.negSucc n := by
      cases p with
      | ofNat n => exact absurd h (by simp)
      | negSucc n => exact ⟨n, rfl⟩
    unfold intL
    rw [if_pos h]
    refine TL.ext_tl ?_
    have e : toString (Int.negSucc n) = "-" ++ toString ((n + 1 : Nat) : Int) := rfl
    rw [e, TL.tl_ofString, String.toList_append, List.map_append]
    have e2 := TL.tl_num (n + 1)
    rw [TL.tl_ofString] at e2
    rw [e2]
    rfl
  · obtain ⟨n, rfl⟩ : ∃ n : Nat, p = (n : Int) := ⟨p.toNat, by omega⟩
    rw [intL_nat]
    exact num_S n
def figs : List Nat := [48, 49, 50, 51, 52, 53, 54, 55, 56, 57]
theorem mem_figs (c : Nat) : c ∈ figs ↔ dig c = true := by
  unfold figs dig
  simp only [List.mem_cons, List.not_mem_nil, or_false, Bool.and_eq_true, decide_eq_true_eq]
  omega
theorem con_figs (c : Nat) : (S figs).cps.contains c = dig c := by
  rw [Bool.eq_iff_iff, ← mem_figs]
  simp [S]
theorem tl_stripBy (g : Nat → Bool) (a : List Nat) : TL.tl (Txt.stripBy g true true (S a)) = (a.drop (a.takeWhile g).length).take ((a.length - ((a.drop (a.takeWhile g).length).reverse.takeWhile g).length) - (a.takeWhile g).length) := by
  have elo : stripLo g true (S a) = (a.takeWhile g).length := rfl
  have ehi : stripHi g true (S a) (stripLo g true (S a)) = a.length - ((a.drop (a.takeWhile g).length).reverse.takeWhile g).length := by
    show (S a).length - _ = _
    rw [S_len]
    rfl
  unfold Txt.stripBy
  split
  · rename_i h
    unfold stripSame at h
    rw [Bool.and_eq_true, beq_iff_eq, beq_iff_eq, ehi, elo, S_len] at h
    rw [h.1]
    rw [h.1] at h
    rw [h.2, List.drop_zero, Nat.sub_zero, List.take_length]
  · unfold stripped
    rw [TL.tl_strSub, ehi, elo]
theorem drop_tw (g : Nat → Bool) : ∀ a : List Nat, a.all g = false → ∃ c r, a.drop (a.takeWhile g).length = c :: r ∧ g c = false
  | [], h => by cases h
  | c :: r, h => by
    by_cases hc : g c = true
    · rw [List.takeWhile_cons, if_pos hc]
      rw [List.all_cons, hc, Bool.true_and] at h
      exact drop_tw g r h
    · rw [List.takeWhile_cons, if_neg hc]
      exact ⟨c, r, rfl, Bool.eq_false_iff.mpr hc⟩
theorem tw_lt (g : Nat → Bool) {l : List Nat} {c : Nat} (h : c ∈ l) (hc : g c = false) : (l.takeWhile g).length < l.length := by
  induction l with
  | nil => cases h
  | cons d r ih =>
    rw [List.takeWhile_cons]
    split
    · rename_i hd
      rcases List.mem_cons.mp h with e | h
      · rw [← e, hc] at hd; cases hd
      · have := ih h
        simp only [List.length_cons]
        omega
    · simp
theorem tw_all (g : Nat → Bool) : ∀ {l : List Nat}, (∀ c ∈ l, g c = true) → l.takeWhile g = l
  | [], _ => rfl
  | c :: l, h => by rw [List.takeWhile_cons, if_pos (h c (List.mem_cons_self ..)), tw_all g fun d hd => h d (List.mem_cons_of_mem _ hd)]
theorem strip_figs (a : List Nat) : decide (Txt.stripChars (S a) (S figs) = S []) = a.all dig := by
  have e : Txt.stripChars (S a) (S figs) = Txt.stripBy dig true true (S a) := by
    unfold Txt.stripChars
    congr 1
    funext c
    exact con_figs c
  rw [e]
  by_cases h : a.all dig = true
  · rw [h]
    refine decide_eq_true (TL.ext_tl ?_)
    rw [tl_stripBy, tw_all dig (fun c hc => List.all_eq_true.mp h c hc)]
    simp
  · rw [Bool.eq_false_iff.mpr h]
    refine decide_eq_false fun z => ?_
    have z' := congrArg TL.tl z
    rw [tl_stripBy] at z'
    obtain ⟨c, r, hd, hc⟩ := drop_tw dig a (Bool.eq_false_iff.mpr h)
    have hlen : (a.drop (a.takeWhile dig).length).length = a.length - (a.takeWhile dig).length := List.length_drop
    have hlt := tw_lt dig (l := (a.drop (a.takeWhile dig).length).reverse) (c := c) (by rw [hd]; simp) hc
    rw [List.length_reverse, hlen] at hlt
    have hpos : 0 < (a.drop (a.takeWhile dig).length).length := by rw [hd]; simp
    have z2 := congrArg List.length z'
    rw [List.length_take, hlen] at z2
    have z3 : (TL.tl (S [])).length = 0 := rfl
    rw [z3] at z2
    omega
theorem starts_neg (t : List Nat) : Txt.startswith (S t) (S [45]) = neg t := by
  unfold Txt.startswith neg
  cases t with
  | nil => rfl
  | cons c r =>
    have h1 : decide (0 + (S [45]).length ≤ (S (c :: r)).length) = true := decide_eq_true (by rw [S_len, S_len]; simp)
    rw [h1, Bool.true_and]
    unfold Builtin.Str.subAt
    have : (S (c :: r)).cps.extract 0 (0 + (S [45]).length) = #[c] := by
      simp [S, Str.length]
    rw [this]
    show (#[c] == #[45]) = _
    by_cases hc : c = 45
    · subst hc; simp
    · simp [hc]
theorem take_neg (t : List Nat) : decide (S (t.take 1) = S [45]) = neg t := by
  unfold neg
  cases t with
  | nil => rfl
  | cons c r =>
    by_cases hc : c = 45
    · subst hc; simp
    · have : S ((c :: r).take 1) ≠ S [45] := fun z => hc (by have := S_inj z; simpa using this)
      rw [decide_eq_false this]
      simp [hc]
theorem str_ne {a b : List Nat} : (S a = S b) ↔ a = b := ⟨S_inj, fun h => by rw [h]⟩
end QQ
namespace QQ
open PySem PySem.Spec PyProof.Rows L2 WE SX
theorem Same.new {H H1 : Hp} {p : Addr} {o : HO} (s : Same H H1) (h : H1 p = none) : Same H (upd H1 p o) := fun b u e => by
  have e1 := s b u e
  rw [upd_ne (ne_of_none e1 h)]
  exact e1
theorem Same.put {H : Hp} {p : Addr} {o : HO} (h : H p = none) : Same H (upd H p o) := Same.new (Same.refl H) h
def top (i : Nat) : Stmt := PySem.Challenge.pw_wishedwires_k02_ratios_as_texts.main.body.getD i (.Pass ⟨0, 0, 0, 0⟩)
abbrev sErr : Stmt := inClass (top 3) 0
abbrev sIsInt : Stmt := top 6
abbrev sGcd : Stmt := top 9
abbrev sPlain : Stmt := top 10
abbrev sInit : Stmt := inClass (top 11) 0
abbrev sParse : Stmt := inClass (top 11) 1
abbrev sStr : Stmt := inClass (top 11) 17
abbrev sRead : Stmt := top 12
abbrev sDraws : Stmt := top 15
abbrev sDraw : Stmt := top 16
abbrev sLPlain : Stmt := top 17
abbrev sLDiv : Stmt := top 18
abbrev sDue : Stmt := top 19
abbrev sTold : Stmt := top 20
abbrev sRight : Stmt := top 21
abbrev sText : Stmt := top 22
abbrev sLaw : Stmt := top 23
structure Blt (mg : Str → Option Value) : Prop where
  str : mg "str" = none
  len : mg "len" = none
  isinstance : mg "isinstance" = none
  all : mg "all" = none
  range : mg "range" = none
  int : mg "int" = none
  abs : mg "abs" = none
  bool : mg "bool" = none
  max : mg "max" = none
  min : mg "min" = none
def fldsR (a b : Int) : List (Str × V) := putF "bottom" (.int b) (putF "top" (.int a) [])
/-- a ratio at p -/
def RatAt (C : Addr) (H : Hp) (p : Addr) (r : Int × Int) : Prop := ∃ dx, H p = some (.ins C dx (fldsR r.1 r.2))
theorem RatAt.same {C : Addr} {H H' : Hp} {p : Addr} {r : Int × Int} (R : RatAt C H p r) (s : Same H H') : RatAt C H' p r := by
  obtain ⟨dx, h⟩ := R
  exact ⟨dx, s _ _ h⟩
structure RTxt (K : PySem.W.Frag) (mg : Str → Option Value) (C : Addr) : Prop where
  cl : Cls K C
  nT : NoAttr K C "top"
  nB : NoAttr K C "bottom"
  mgC : mg "Ratio" = some (.ref C)
def spIsInt : Sp := fun vs H Q _ => ∃ i : Int, vs = [.int i] ∧ Q (.bl true) H
def spGcd : Sp := fun vs H Q _ => ∃ i j : Int, vs = [.int i, .int j] ∧ Q (.int (Int.gcd i j : Int)) H
def spInit (C : Addr) : Sp := fun vs H Q _ => ∃ (p dx : Addr) (a b : Int), vs = [.ref p, .int a, .int b] ∧ H p = some (.ins C dx []) ∧ b ≠ 0 ∧ b.natAbs < 2 ^ 200 ∧
  ∀ H', (∀ c o, H c = some o → c ≠ p → H' c = some o) → H' p = some (.ins C dx (fldsR (lowP a b).1 (lowP a b).2)) → Q .non H'
def spStr (C : Addr) : Sp := fun vs H Q _ => ∃ (p : Addr) (r : Int × Int), vs = [.ref p] ∧ RatAt C H p r ∧ r.1.natAbs < 2 ^ 1900 ∧ r.2.natAbs < 2 ^ 1900 ∧ Q (.str (S (strR r))) H
section
variable {P : Program} {w : World} {K : PySem.W.Frag} {mg : Str → Option Value} {base : Heap} {f C CI W fE : Addr} {fd fdE : FuncData}
theorem scII : FnScope ["thing"] ["thing"] (defScope sIsInt) := ⟨rfl, rfl, rfl, by decide +kernel, rfl, by decide +kernel, by decide +kernel⟩
theorem ok_isInt (F : Fun K "is_integer" "is_integer" sIsInt f fd) (B : Blt mg) : FnOk P w K mg base CX0 1 f fd ["thing"] spIsInt := by
  refine F.ok scII (fun vs H Q E h => ?_) (fun cdv A outer s H vs Q E hr h => ?_)
  · obtain ⟨i, rfl, _⟩ := h
    rfl
  · obtain ⟨i, rfl, k⟩ := h
    refine ⟨_, pss_one (ps_ret (pe_and (pe_callB call_isi (by rfl) B.isinstance (by decide +kernel) (pa_cons (pv 0) (pa_cons (pe_bltn (v := .ty "int") (by rfl) B.int (by decide +kernel) rfl) pa_nil))) (pe_one (pe_not (pe_callB call_isi (by rfl) B.isinstance (by decide +kernel) (pa_cons (pv 0) (pa_cons (pe_bltn (v := .ty "bool") (by rfl) B.bool (by decide +kernel) rfl) pa_nil))))))), ?_⟩
    refine ⟨_, rfl, _, _, _, _, true, rfl, .ty _, .base (.int i), by kernel_rfl, _, rfl, iteT ?_⟩
    exact ⟨_, rfl, _, _, _, _, false, rfl, .ty _, .base (.int i), by kernel_rfl, _, rfl, k⟩
abbrev nG : List Str := ["one", "other", "left", "right"]
theorem scG : FnScope nG ["one", "other"] (defScope sGcd) := ⟨rfl, rfl, rfl, by decide +kernel, rfl, by decide +kernel, by decide +kernel⟩
def rightOf (σ : L2.St) : Nat := match σ[3]? with
  | some (some (V.int l)) => l.toNat
  | _ => 0
theorem ok_gcd (F : Fun K "greatest_divisor" "greatest_divisor" sGcd f fd) (B : Blt mg) : FnOk P w K mg base CX0 1 f fd ["one", "other"] spGcd := by
  refine F.ok scG (fun vs H Q E h => ?_) (fun cdv A outer s H vs Q E hr h => ?_)
  · obtain ⟨i, j, rfl, _⟩ := h
    rfl
  · obtain ⟨i, j, rfl, k⟩ := h
    refine ⟨_, pss_cons (ps_par (i := 2) (j := 3) (by rfl) scG.nd rfl rfl (by decide) rfl rfl (pa_cons (pe_callB call_abs (by rfl) B.abs (by decide +kernel) (pa_cons (pv 0) pa_nil)) (pa_cons (pe_callB call_abs (by rfl) B.abs (by decide +kernel) (pa_cons (pv 1) pa_nil)) pa_nil)) (by rfl))
      (pss_cons (ps_while PassesOwn.never (pt_cmpR op_ne (pv 3) pe_int (nomark _))
        (pss_one (ps_par (i := 2) (j := 3) (by rfl) scG.nd rfl rfl (by decide) rfl rfl (pa_cons (pv 3) (pa_cons (pe_op op_mod (pv 2) (pv 3)) pa_nil)) (by rfl))))
      (pss_one (ps_ret (pv 2)))), ?_⟩
    refine ⟨_, rfl, i, rfl, _, rfl, j, rfl, _, _, rfl, ?_⟩
    have ab : ∀ x : Int, (if x < 0 then -x else x) = (x.natAbs : Int) := fun x => by split <;> omega
    rw [ab, ab]
    refine while_by (fun σ' H' => ∃ a b : Nat, σ' = [some (.int i), some (.int j), some (.int (a : Int)), some (.int (b : Int))] ∧ H' = H ∧ Nat.gcd a b = Int.gcd i j)
      (fun σ' _ => rightOf σ') ⟨i.natAbs, j.natAbs, rfl, rfl, rfl⟩ ?_ (fun σ' H' Q1 Q2 hq ⟨v, e, e1, b, e3, q⟩ => ⟨v, e, e1, b, e3, hq _ _ q⟩)
    rintro _ _ ⟨a, b, rfl, rfl, hg⟩
    refine ⟨_, rfl, rfl, _, rfl, ?_⟩
    show (if (!decide (V.int (b : Int) = V.int 0)) = true then _ else _)
    by_cases hb : b = 0
    · subst hb
      rw [show decide (V.int ((0 : Nat) : Int) = V.int 0) = true from decide_eq_true rfl]
      refine iteF ?_
      rw [Nat.gcd_zero_right] at hg
      refine ⟨_, rfl, ?_⟩
      rw [hg]
      exact k
    · rw [show decide (V.int (b : Int) = V.int 0) = false from decide_eq_false (by intro z; injection z with z; omega)]
      refine iteT ?_
      refine ⟨_, rfl, _, rfl, _, rfl, _, _, rfl, rfl, (by show (0 : Int) < (b : Int); omega), _, _, rfl, ?_⟩
      refine ⟨⟨b, a % b, ?_, rfl, ?_⟩, ?_⟩
      · show [some (V.int i), some (V.int j), some (V.int (b : Int)), some (V.int ((a : Int) % (b : Int)))] = _
        simp
      · rw [← hg, Nat.gcd_comm b, ← Nat.gcd_rec, Nat.gcd_comm]
      · show ((a : Int) % (b : Int)).toNat < ((b : Int)).toNat
        have := Int.emod_lt_of_pos (a : Int) (show (0 : Int) < (b : Int) by omega)
        omega
end
end QQ
namespace QQ
open PySem PySem.Spec PyProof.Rows L2 WE SX
section
variable {P : Program} {w : World} {K : PySem.W.Frag} {mg : Str → Option Value} {base : Heap} {f C CI W fE : Addr} {fd fdE : FuncData}
/-- a def with defaults, by its body -/
theorem ok0 {x qual : Str} {st : Stmt} {dvs : List V} {f : Addr} {fd : FuncData} {N ps : List Str} {k : Nat} {sp : Sp} (F : FunD K x qual (defArgs st) (defBody st) (defScope st) dvs [] f fd) (S : FnScope N ps (defScope st)) (len : ∀ vs H Q E, sp vs H Q E → vs.length = ps.length)
    (hbody : ∀ (cdv : Value) (A : Around) (outer : List Env) (s : Shared) (H : Hp) (vs : List V) (Q : VK) (E : XK), Room k (A.deeper (envOfC qual (defScope st) s.heap.objs.size f cdv)) → sp vs H Q E →
      ∃ t, PSs (cxOf CX0 P w K mg base N qual (defScope st) f cdv A outer s H E).nox (defBody st) t ∧ t { nx := fun _ H' => Q .non H', rt := Q } (L2.start N vs) H) : FnOk P w K mg base CX0 (k + 1) f fd ps sp :=
  F.ok S len fun cdv A outer s H vs Q E hr hsp => by
    obtain ⟨t, h, q⟩ := hbody cdv A outer s H vs Q E hr hsp
    exact ⟨t, h.nox, q⟩
theorem binds_init (F : FunD K "__init__" "Ratio.__init__" (defArgs sInit) (defBody sInit) (defScope sInit) [.int 1] [] f fd) : L2.Binds K fd ["self", "top", "bottom"] [] := by
  obtain ⟨ds, v, b⟩ := F.binds1 (ps := ["self", "top", "bottom"]) 3 1 (by simp) (by decide) (fun T kV doc pm an cdv ct us its hl hi => by
    match us, hl, its, hi with
    | [_, _, _], _, [_], _ => exact ⟨_, rfl, rfl⟩)
  cases v
  exact b
abbrev nI : List Str := ["self", "top", "bottom", "by", "sign"]
theorem scI : FnScope nI ["self", "top", "bottom"] (defScope sInit) := ⟨rfl, rfl, rfl, by decide +kernel, rfl, by decide +kernel, by decide +kernel⟩
theorem ok_init {fI fG : Addr} {fdI fdG : FuncData} (F : FunD K "__init__" "Ratio.__init__" (defArgs sInit) (defBody sInit) (defScope sInit) [.int 1] [] f fd) (T : RTxt K mg C) (GI : FnOk P w K mg base CX0 1 fI fdI ["thing"] spIsInt) (bI : L2.Binds K fdI ["thing"] []) (mI : mg "is_integer" = some (.ref fI)) (kI : PySem.W.keepIn K (.ref fI) = true)
    (GG : FnOk P w K mg base CX0 1 fG fdG ["one", "other"] spGcd) (bG : L2.Binds K fdG ["one", "other"] []) (mG : mg "greatest_divisor" = some (.ref fG)) (kG : PySem.W.keepIn K (.ref fG) = true) : FnOk P w K mg base CX0 2 f fd ["self", "top", "bottom"] (spInit C) := by
  refine ok0 F scI (fun vs H Q E h => ?_) (fun cdv A outer s H vs Q E hr h => ?_)
  · obtain ⟨p, dx, a, b, rfl, _⟩ := h
    rfl
  · obtain ⟨p, dx, a, b, rfl, hp, hb0, hb1, k⟩ := h
    refine ⟨_, pss_cons (ps_if (pt_not (pt_val (pe_call GI hr (by rfl) mI kI bI .nil pass0 (pa_cons (pv 1) pa_nil)))) (pss_one ps_never) pss_nil)
      (pss_cons (ps_if (pt_not (pt_val (pe_call GI hr (by rfl) mI kI bI .nil pass0 (pa_cons (pv 2) pa_nil)))) (pss_one ps_never) pss_nil)
      (pss_cons (ps_if (pt_cmpR op_eq (pv 2) pe_int (nomark _)) (pss_one ps_never) pss_nil)
      (pss_cons (ps_set (i := 3) scI.nd rfl (Or.inl rfl) (pe_call GG hr (by rfl) mG kG bG .nil pass0 (pa_cons (pv 1) (pa_cons (pv 2) pa_nil))))
      (C8.pss_cut (ps_set (i := 4) scI.nd rfl (Or.inl rfl) (pe_ifExp (pt_cmpR op_lt (pv 2) pe_int (nomark _)) (pe_un un_neg pe_int) pe_int))
      (pss_cons (ps_fld (pv 0) (pe_op op_mul (pv 4) (pe_op op_fdivW (pv 1) (pv 3))) rfl)
      (pss_one (ps_fld (pv 0) (pe_op op_mul (pv 4) (pe_op op_fdivW (pv 2) (pv 3))) rfl))))))), ?_⟩
    refine ⟨_, rfl, a, rfl, _, rfl, iteF ?_⟩
    refine ⟨_, rfl, b, rfl, _, rfl, iteF ?_⟩
    refine ⟨_, rfl, rfl, _, rfl, ?_⟩
    rw [show decide (V.int b = V.int 0) = false from decide_eq_false (by intro z; injection z with z; exact hb0 z)]
    refine iteF ?_
    refine ⟨_, rfl, _, rfl, a, b, rfl, ?_⟩
    refine ⟨fun σ' H' => σ' = [some (.ref p), some (.int a), some (.int b), some (.int (Int.gcd a b : Int)), some (.int (sgn b))] ∧ H' = H, ?_, ?_⟩
    · refine ⟨_, rfl, _, _, rfl, rfl, _, rfl, ?_⟩
      unfold sgn
      by_cases hn : b < 0
      · rw [decide_eq_true hn, if_pos hn]
        refine iteT ?_
        exact ⟨_, rfl, rfl, rfl⟩
      · rw [decide_eq_false hn, if_neg hn]
        exact iteF ⟨rfl, rfl⟩
    rintro _ _ ⟨rfl, rfl⟩
    have hg0 : (0 : Int) < (Int.gcd a b : Int) := by
      have := Int.gcd_pos_of_ne_zero_right a hb0
      omega
    have hg1 : ((Int.gcd a b : Int)).natAbs < 2 ^ 200 := by
      have h1 : Int.gcd a b ≤ b.natAbs := Nat.le_of_dvd (by omega) (Nat.gcd_dvd_right _ _)
      rw [Int.natAbs_natCast]
      omega
    have hs0 : -(2 : Int) ^ 64 ≤ sgn b ∧ sgn b ≤ 2 ^ 64 := by unfold sgn; split <;> decide
    refine ⟨_, rfl, _, rfl, _, rfl, _, _, rfl, rfl, wide_div (b := 200) hg0 hg1 (by decide) (by decide), _, _, rfl, rfl, .inl (by unfold sgn; split <;> exact ⟨by decide, by decide⟩), _, rfl, p, C, dx, [], rfl, hp, T.cl, T.nT, by show 0 < 1000; decide, ?_⟩
    refine ⟨_, rfl, _, rfl, _, rfl, _, _, rfl, rfl, wide_div (b := 200) hg0 hg1 (by decide) (by decide), _, _, rfl, rfl, .inl (by unfold sgn; split <;> exact ⟨by decide, by decide⟩), _, rfl, p, C, dx, _, rfl, upd_same, T.cl, T.nB, by show 1 < 1000; decide, ?_⟩
    refine k _ (fun c o e nc => ?_) upd_same
    rw [upd_ne nc, upd_ne nc]
    exact e
theorem scS : FnScope ["self"] ["self"] (defScope sStr) := ⟨rfl, rfl, rfl, by decide +kernel, rfl, by decide +kernel, by decide +kernel⟩
theorem intL_len {p : Int} (h : p.natAbs < 2 ^ 1900) : (intL p).length ≤ 1901 := by
  have h1 : p.natAbs < 10 ^ 1900 := Nat.lt_of_lt_of_le h (Nat.pow_le_pow_left (by decide) 1900)
  have := TL.numL_len (k := 1900) (by decide) h1
  unfold intL
  split
  · rw [List.length_cons]; omega
  · omega
theorem log_lt {p : Int} (h : p.natAbs < 2 ^ 1900) : p.natAbs.log2 < 1920 := Nat.lt_of_lt_of_le (PySem.Flt.log2_lt_of (by decide) h) (by decide)
theorem ok_str (F : Fun K "__str__" "Ratio.__str__" sStr f fd) (T : RTxt K mg C) : FnOk P w K mg base CX0 1 f fd ["self"] (spStr C) := by
  refine F.ok scS (fun vs H Q E h => ?_) (fun cdv A outer s H vs Q E hr h => ?_)
  · obtain ⟨p, r, rfl, _⟩ := h
    rfl
  · obtain ⟨p, ⟨x, y⟩, rfl, ⟨dx, hp⟩, hx, hy, k⟩ := h
    refine ⟨_, pss_cons (ps_if (pt_cmpR op_eq (pe_fld (pv 0) rfl) pe_int (nomark _)) (pss_one (ps_ret (pe_joined1 (pe_fmt (pe_fld (pv 0) rfl))))) pss_nil)
      (pss_one (ps_ret (pe_joined (.cons (pe_fmt (pe_fld (pv 0) rfl)) (.cons pe_str (.cons (pe_fmt (pe_fld (pv 0) rfl)) .nil)))))), ?_⟩
    refine ⟨_, rfl, p, C, dx, _, .int y, rfl, hp, T.cl, T.nB, rfl, rfl, _, rfl, ?_⟩
    have e1 : Str.ofString (toString x) = S (intL x) := int_text x
    have e2 : Str.ofString (toString y) = S (intL y) := int_text y
    by_cases hy1 : y = 1
    · rw [show decide (V.int y = V.int 1) = true from decide_eq_true (by rw [hy1])]
      refine iteT ?_
      refine ⟨_, rfl, p, C, dx, _, .int x, rfl, hp, T.cl, T.nT, rfl, .inr ⟨x, rfl, log_lt hx, ?_⟩⟩
      unfold strR at k
      rw [if_pos hy1] at k
      rw [e1]
      exact k
    · rw [show decide (V.int y = V.int 1) = false from decide_eq_false (by intro z; injection z with z; exact hy1 z)]
      refine iteF ?_
      have l1 : (intL x).length ≤ 1901 := intL_len hx
      have l2 : (intL y).length ≤ 1901 := intL_len hy
      have e3 : Str.ofString "/" = S [47] := by decide +kernel
      have c1 : Str.empty ++ S (intL x) = S (intL x) := S_cat [] (intL x)
      have c2 : S (intL x) ++ Str.ofString "/" = S (intL x ++ [47]) := by rw [e3, S_cat]
      have c3 : S (intL x ++ [47]) ++ S (intL y) = S (intL x ++ [47] ++ intL y) := S_cat _ _
      unfold strR at k
      rw [if_neg hy1] at k
      refine ⟨_, rfl, p, C, dx, _, .int x, rfl, hp, T.cl, T.nT, rfl, .inr ⟨x, rfl, log_lt hx, S (intL x), by rw [e1], by rw [c1, S_len, sizeLine_eq]; omega, Str.ofString "/", rfl, by rw [c1, c2, S_len, sizeLine_eq, List.length_append, List.length_singleton]; omega, ?_⟩⟩
      refine ⟨_, rfl, p, C, dx, _, .int y, rfl, hp, T.cl, T.nB, rfl, .inr ⟨y, rfl, log_lt hy, S (intL y), by rw [e2], ?_, ?_⟩⟩
      · rw [c1, c2, c3, S_len, sizeLine_eq, List.length_append, List.length_append, List.length_singleton]
        omega
      · show Q (.str (Str.empty ++ S (intL x) ++ Str.ofString "/" ++ S (intL y))) H
        rw [c1, c2, c3, List.append_assoc]
        exact k
end
end QQ
namespace QQ
open PySem PySem.Spec PyProof.Rows L2 WE SX
def spPlain : Sp := fun vs H Q _ => ∃ a : List Nat, vs = [.str (S a)] ∧ a.length ≤ 1000 ∧ Q (.bl (plainL a)) H
section
variable {P : Program} {w : World} {K : PySem.W.Frag} {mg : Str → Option Value} {base : Heap} {f C CI W fE : Addr} {fd fdE : FuncData} {tF : Tok}
theorem scPl : FnScope ["text"] ["text"] (defScope sPlain) := ⟨rfl, rfl, rfl, by decide +kernel, rfl, by decide +kernel, by decide +kernel⟩
theorem figs_eq : Str.ofString "0123456789" = S figs := by decide +kernel
theorem ok_plain (F : Fun K "is_plain" "is_plain" sPlain f fd) (mF : mg "FIGURES" = some (.str "0123456789" tF)) : FnOk P w K mg base CX0 1 f fd ["text"] spPlain := by
  refine F.ok scPl (fun vs H Q E h => ?_) (fun cdv A outer s H vs Q E hr h => ?_)
  · obtain ⟨a, rfl, _⟩ := h
    rfl
  · obtain ⟨a, rfl, hl, k⟩ := h
    refine ⟨_, pss_one (ps_ret (pe_and (pe_cmpR op_ne (pv 0) pe_str (nomark _)) (pe_and (pe_cmpR op_eq (pe_bm PySem.F.plainAttrs_str PySem.F.slot_str_strip PySem.F.type_str_strip mt_stripChars (pv 0) (pa_cons (pe_glob (v := .str "0123456789") rfl mF ⟨_, rfl⟩) pa_nil)) pe_str (nomark _)) (pe_one (pe_or (pe_cmpR op_eq (pv 0) pe_str (nomark _)) (pe_one (pe_cmpR op_ne (pe_ix ix_str (pv 0) pe_int (fun _ _ => rfl)) pe_str (nomark _)))))))), ?_⟩
    have e0 : Str.ofString "" = S [] := by decide +kernel
    have e1 : Str.ofString "0" = S [48] := by decide +kernel
    have dS : ∀ x y : List Nat, decide (V.str (S x) = V.str (S y)) = decide (x = y) := fun x y => by
      by_cases h : x = y
      · rw [h]; simp
      · rw [decide_eq_false h, decide_eq_false fun z => h (S_inj (by injection z))]
    have sF := strip_figs a
    refine ⟨_, rfl, rfl, _, rfl, ?_⟩
    show (if (!decide (V.str (S a) = V.str (Str.ofString ""))) = true then _ else _)
    rw [e0, dS]
    cases a with
    | nil => exact iteF k
    | cons c r =>
      rw [decide_eq_false (by simp)]
      refine iteT ?_
      refine ⟨_, rfl, rfl, S (c :: r), Str.ofString "0123456789", rfl, rfl, by rw [S_len, sizeLine_eq]; omega, rfl, _, rfl, ?_⟩
      show (if decide (V.str (Txt.stripChars (S (c :: r)) (Str.ofString "0123456789")) = V.str (Str.ofString "")) = true then _ else _)
      have eD : decide (V.str (Txt.stripChars (S (c :: r)) (Str.ofString "0123456789")) = V.str (Str.ofString "")) = (c :: r).all dig := by
        rw [← sF, figs_eq, e0]
        by_cases h : Txt.stripChars (S (c :: r)) (S figs) = S []
        · rw [h]; simp
        · rw [decide_eq_false h, decide_eq_false fun z => h (by injection z)]
      rw [eD]
      unfold plainL at k
      by_cases hd : (c :: r).all dig = true
      · rw [hd] at k ⊢
        refine iteT ?_
        refine ⟨_, rfl, rfl, _, rfl, ?_⟩
        show (if decide (V.str (S (c :: r)) = V.str (Str.ofString "0")) = true then _ else _)
        rw [e1, dS]
        by_cases h0 : c :: r = [48]
        · rw [decide_eq_true h0] at k ⊢
          exact iteT k
        · rw [decide_eq_false h0] at k ⊢
          refine iteF ?_
          refine ⟨_, rfl, _, _, c, rfl, rfl, by rw [S_len, sizeLine_eq]; omega, atI_nat (xs := c :: r) (j := 0) rfl, rfl, ?_⟩
          show Q (.bl (!decide (V.str (S [c]) = V.str (Str.ofString "0")))) H
          rw [e1, dS]
          have : decide ([c] = [48]) = decide ((c :: r).head? = some 48) := by
            by_cases hc : c = 48
            · subst hc; simp
            · simp [hc]
          rw [this]
          exact k
      · rw [Bool.eq_false_iff.mpr hd] at k ⊢
        exact iteF k
end
end QQ
namespace QQ
open PySem PySem.Spec PyProof.Rows L2 WE SX
abbrev vS (w : List Nat) : V := V.str (S w)
/-- no text -/
def NoTxt (K : PySem.W.Frag) (H : Hp) (v : V) : Prop := ∃ t : Value, TyX K H v t ∧ PySem.W.kitOne K t (.type "str") = some false
def spRead (K : PySem.W.Frag) : Sp := fun vs H Q _ => (∃ t : List Nat, vs = [vS t] ∧ t.length ≤ 500 ∧ (rd t = none → ∀ H', Same H H' → Q .non H') ∧ (∀ p q, rd t = some (p, q) → ∀ T H', Same H H' → H T = none → H' T = some (.tup [.int p, .int q]) → Q (.ref T) H')) ∨
  (∃ v, vs = [v] ∧ NoTxt K H v ∧ Q .non H)
theorem wds_len {t : List Nat} : ∀ w ∈ wds t, w.length ≤ t.length := by
  intro w hw
  have h1 : (rst t).length ≤ t.length := by unfold rst; split <;> simp
  have key : ∀ (ps : List (List Nat)), w ∈ ps → w.length ≤ (TL.joinL [47] ps).length := by
    intro ps
    induction ps with
    | nil => intro h; cases h
    | cons p r ih =>
      intro h
      cases r with
      | nil =>
        rw [List.mem_singleton] at h
        rw [h]
        exact Nat.le_refl _
      | cons q r' =>
        rw [joinL_cons (by simp), List.length_append, List.length_cons]
        rcases List.mem_cons.mp h with e | h
        · rw [e]; omega
        · have := ih h; omega
  have := key _ hw
  unfold wds at this
  rw [join_spl, List.nil_append] at this
  omega
theorem spl_count (c : Nat) : ∀ (l acc : List Nat), (TL.spl [c] 0 acc l).length ≤ l.length + 1
  | [], acc => by rw [TL.spl_nil]; simp
  | d :: r, acc => by
    by_cases h : d = c
    · rw [TL.spl_hit (by rw [pre_one]; exact decide_eq_true h)]
      have := spl_count c r []
      show (TL.spl [c] 0 [] r).length + 1 ≤ r.length + 1 + 1
      omega
    · rw [TL.spl_miss (by rw [pre_one]; exact decide_eq_false h), List.length_cons]
      have := spl_count c r (acc ++ [d])
      omega
theorem wds_count (t : List Nat) : (wds t).length ≤ t.length + 1 := by
  have h1 : (rst t).length ≤ t.length := by unfold rst; split <;> simp
  have := spl_count 47 (rst t) []
  unfold wds
  omega
section
variable {P : Program} {w : World} {K : PySem.W.Frag} {mg : Str → Option Value} {base : Heap} {f C CI W fE : Addr} {fd fdE : FuncData} {tF : Tok}
abbrev nR : List Str := ["text", "sign", "words", "word", "bottom"]
theorem scR : FnScope nR ["text"] (defScope sRead) := ⟨rfl, rfl, rfl, by decide +kernel, rfl, by decide +kernel, by decide +kernel⟩
theorem split47 (l : List Nat) : (Txt.split (S l) (Str.ofString "/")).map V.str = (TL.spl [47] 0 [] l).map vS := by
  have e3 : Str.ofString "/" = S [47] := by decide +kernel
  rw [e3, split_S (by simp) (by decide), List.map_map]
  rfl
theorem okT_eq (t : List Nat) (h : (wds t).length ≤ 2) : ((wds t).map okW).all id = okT t := by
  unfold okT
  rw [decide_eq_true h, Bool.true_and, List.all_map]
  rfl
theorem ok_read {fP : Addr} {fdP : FuncData} (F : Fun K "read_ratio" "read_ratio" sRead f fd) (B : Blt mg) (GP : FnOk P w K mg base CX0 1 fP fdP ["text"] spPlain) (bP : L2.Binds K fdP ["text"] []) (mP : mg "is_plain" = some (.ref fP)) (kP : PySem.W.keepIn K (.ref fP) = true) : FnOk P w K mg base CX0 2 f fd ["text"] (spRead K) := by
  refine F.ok scR (fun vs H Q E h => ?_) (fun cdv A outer s H vs Q E hr h => ?_)
  · rcases h with ⟨t, rfl, _⟩ | ⟨v, rfl, _⟩ <;> rfl
  · refine ⟨_, pss_cons (ps_if (pt_not (pt_val (pe_callB call_isi (by rfl) B.isinstance (by decide +kernel) (pa_cons (pv 0) (pa_cons (pe_bltn (v := .ty "str") (by rfl) B.str (by decide +kernel) rfl) pa_nil))))) (pss_one (ps_ret pe_non)) pss_nil)
      (C8.pss_cut (ps_set (i := 1) scR.nd rfl (Or.inl rfl) (pe_ifExp (pt_val (pe_bm PySem.F.plainAttrs_str PySem.F.slot_str_startswith PySem.F.type_str_startswith mt_startswith (pv 0) (pa_cons pe_str pa_nil))) (pe_un un_neg pe_int) pe_int))
      (C8.pss_cut (ps_set (i := 2) scR.nd rfl (Or.inl rfl) (pe_ifExp (pt_cmpR op_lt (pv 1) pe_int (nomark _)) (pe_split (pe_slice C8.sl_txt (pv 0) (po_some pe_int) po_none) pe_str) (pe_split (pv 0) pe_str)))
      (pss_cons (ps_if (PW.pt (pw_or (pt_cmpR op_gt (pe_callB call_len_seq (by rfl) B.len PySem.boot_len (pa_cons (pv 2) pa_nil)) pe_int (nomark _)) (pw_or1 (pt_not (pt_val (pe_callB (cr_all rfl) (by rfl) B.all (by decide +kernel) (pa_cons (pe_lc (own := [("word", 3)]) (g := gName 3) (tt := tYes) rfl scR.nd (pi_list (pv 2)) (blkOk_by (own := [("word", 3)]) (N := nR) (sc := defScope sRead) (by decide +kernel))
          (fun _ _ _ _ _ => pg_name (i := 3) scR.nd rfl (Or.inl rfl)) (fun _ _ _ _ _ => pts_nil) (fun _ _ _ _ _ => pe_and (pe_call GP hr (by rfl) mP kP bP .nil pass0 (pa_cons (pv 3) pa_nil)) (pe_one (pe_cmpR op_le (pe_callB call_len_str (by rfl) B.len PySem.boot_len (pa_cons (pv 3) pa_nil)) pe_int (nomark _))))) pa_nil))))))) (pss_one (ps_ret pe_non)) pss_nil)
      (C8.pss_cut (ps_set (i := 4) scR.nd rfl (Or.inl rfl) (pe_ifExp (pt_cmpR op_eq (pe_callB call_len_seq (by rfl) B.len PySem.boot_len (pa_cons (pv 2) pa_nil)) pe_int (nomark _)) (pe_callTy call_int_str (by rfl) B.int (by decide +kernel) (pa_cons (pe_ix ix_list (pv 2) pe_int (fun _ _ => rfl)) pa_nil)) pe_int))
      (pss_one (ps_ret (pe_ifExp (pt_cmpR op_eq (pv 4) pe_int (nomark _)) pe_non (pe_tup (pa_cons (pe_op op_mul (pv 1) (pe_callTy call_int_str (by rfl) B.int (by decide +kernel) (pa_cons (pe_ix ix_list (pv 2) pe_int (fun _ _ => rfl)) pa_nil))) (pa_cons (pv 4) pa_nil)))))))))), ?_⟩
    rcases h with ⟨t, rfl, ht, k0, k1⟩ | ⟨v, rfl, ⟨ty, hty, hk⟩, k⟩
    · refine ⟨_, rfl, _, _, _, _, true, rfl, .ty _, .base (.str _), by kernel_rfl, _, rfl, iteF ?_⟩
      have eM : Str.ofString "-" = S [45] := by decide +kernel
      have lS : (S t).length = t.length := S_len t
      refine ⟨fun σ' H' => σ' = [some (vS t), some (.int (sg t)), none, none, none] ∧ H = H', ?_, ?_⟩
      · refine ⟨_, rfl, rfl, S t, Str.ofString "-", rfl, rfl, _, rfl, ?_⟩
        rw [eM, starts_neg]
        unfold sg
        by_cases hn : neg t = true
        · rw [hn, if_pos rfl]
          exact iteT ⟨_, rfl, rfl, rfl⟩
        · rw [Bool.eq_false_iff.mpr hn, if_neg (by simp)]
          exact iteF ⟨rfl, rfl⟩
      rintro _ _ ⟨rfl, rfl⟩
      refine ⟨fun σ' H' => ∃ p, σ' = [some (vS t), some (.int (sg t)), some (.ref p), none, none] ∧ Same H H' ∧ H p = none ∧ H' p = some (.lst ((wds t).map vS)), ?_, ?_⟩
      · refine ⟨_, rfl, _, _, rfl, rfl, _, rfl, ?_⟩
        by_cases hn : neg t = true
        · have esg : sg t = -1 := by unfold sg; rw [if_pos hn]
          rw [esg]
          refine iteT ?_
          refine ⟨_, rfl, 1, rfl, S t, rfl, by rw [lS, sizeLine_eq]; omega, ⟨_, rfl⟩, Txt.slice (S t) (some 1) none, Str.ofString "/", rfl, rfl, by decide +kernel, ?_, fun p hp => ?_⟩
          · rw [slice_from (by decide), S_len, sizeLine_eq, List.length_drop]; omega
          · rw [slice_from (by decide), split47]
            have : t.drop (1 : Int).toNat = rst t := by unfold rst; rw [if_pos hn]; rfl
            rw [this]
            exact ⟨p, rfl, Same.put hp, hp, upd_same⟩
        · have esg : sg t = 1 := by unfold sg; rw [if_neg hn]
          rw [esg]
          refine iteF ?_
          refine ⟨_, rfl, ⟨_, rfl⟩, S t, Str.ofString "/", rfl, rfl, by decide +kernel, by rw [lS, sizeLine_eq]; omega, fun p hp => ?_⟩
          rw [split47]
          have : t = rst t := by unfold rst; rw [if_neg hn]
          refine ⟨p, rfl, Same.put hp, hp, ?_⟩
          unfold wds
          rw [← this]
          exact upd_same
      rintro _ H1 ⟨p, rfl, s1, hp0, hp⟩
      have wc := wds_count t
      refine ⟨_, rfl, p, _, rfl, .inl (SqL.of hp), _, _, rfl, rfl, _, rfl, ?_⟩
      by_cases h2 : (2 : Int) < (((wds t).map vS).length : Int)
      · rw [decide_eq_true h2]
        refine iteT ?_
        rw [List.length_map] at h2
        refine k0 ?_ _ s1
        unfold rd okT
        rw [decide_eq_false (by omega)]
        rfl
      rw [decide_eq_false h2]
      refine iteF ?_
      rw [List.length_map] at h2
      have h2' : (wds t).length ≤ 2 := by omega
      refine ⟨_, rfl, p, rfl, ⟨_, SqL.of hp⟩, fun D hD => ?_⟩
      have hpD : p ≠ D := ne_of_none hp hD
      refine WW.lcM (walk_list (K := K) (a := p) (xs := (wds t).map vS)) (((wds t).map okW).map V.bl) (by simp) (by rw [List.length_map]; omega) (fun acc => SqL.of (by rw [upd_ne hpD]; exact hp)) (fun i x y acc H' hy hY => ?_) ?_
      · obtain ⟨rfl, hx⟩ := hY
        rw [List.getElem?_map] at hx
        rw [List.getElem?_map, List.getElem?_map] at hy
        cases q : (wds t)[i]? with
        | none => rw [q] at hx; cases hx
        | some u =>
          rw [q] at hx hy
          cases hx
          cases hy
          have ul := wds_len u (List.mem_of_getElem? q)
          refine ⟨rfl, fun R hR => ⟨rfl, _, rfl, u, rfl, by omega, _, rfl, ?_⟩⟩
          unfold okW at hR
          by_cases hpl : plainL u = true
          · rw [hpl] at hR ⊢
            refine iteT ?_
            refine ⟨_, rfl, S u, rfl, by rw [S_len, sizeLine_eq]; omega, _, _, rfl, rfl, ?_⟩
            have : decide (((S u).length : Int) ≤ 60) = decide (u.length ≤ 60) := by
              rw [S_len]
              by_cases h : u.length ≤ 60
              · rw [decide_eq_true h]; exact decide_eq_true (by omega)
              · rw [decide_eq_false h]; exact decide_eq_false (by omega)
            show R (V.bl (decide (((S u).length : Int) ≤ 60))) _
            rw [this]
            exact hR
          · rw [Bool.eq_false_iff.mpr hpl] at hR ⊢
            exact iteF hR
      have hD1 : H1 D = none := hD
      refine ⟨D, _, rfl, SqL.of upd_same, _, rfl, ?_⟩
      rw [okT_eq t h2']
      have s2 : Same H (upd H1 D (.lst (((wds t).map okW).map V.bl))) := Same.new s1 hD
      by_cases hok : okT t = true
      · rw [hok]
        refine iteF ?_
        have hw : ∀ w ∈ wds t, okW w = true := by
          have := hok
          unfold okT at this
          rw [Bool.and_eq_true, List.all_eq_true] at this
          exact this.2
        have hpl : ∀ w ∈ wds t, plainL w = true ∧ w.length ≤ 60 := fun w h => by
          have := hw w h
          unfold okW at this
          rw [Bool.and_eq_true, decide_eq_true_eq] at this
          exact this
        generalize eH2 : upd H1 D (.lst (((wds t).map okW).map V.bl)) = H2 at s2 ⊢
        have hp2 : H2 p = some (.lst ((wds t).map vS)) := by rw [← eH2, upd_ne hpD]; exact hp
        refine ⟨fun σ' H' => σ' = [some (vS t), some (.int (sg t)), some (.ref p), none, some (.int (v1 t : Int))] ∧ H2 = H', ?_, ?_⟩
        · refine ⟨_, rfl, p, _, rfl, .inl (SqL.of hp2), rfl, _, rfl, ?_⟩
          show (if decide (V.int (((wds t).map vS).length : Int) = V.int 2) = true then _ else _)
          rw [List.length_map]
          have hne : wds t ≠ [] := spl_ne _ _ _
          match hws : wds t, hne, h2' with
          | [w0], _, _ =>
            have e1 : v1 t = 1 := by unfold v1; rw [hws]
            rw [e1]
            exact iteF ⟨rfl, rfl⟩
          | [w0, w1], _, _ =>
            have e1 : v1 t = nv w1 := by unfold v1; rw [hws]
            rw [hws] at hp2
            obtain ⟨q1, q2⟩ := hpl w1 (by rw [hws]; simp)
            refine iteT ?_
            refine ⟨_, rfl, p, _, _, vS w1, rfl, rfl, SqL.of hp2, atI_nat (j := 1) rfl, S w1, (nv w1 : Int), rfl, plain_int q1 (by omega), by rw [S_len]; omega, ?_⟩
            rw [e1]
            exact ⟨rfl, rfl⟩
          | [], h, _ => exact absurd rfl h
          | _ :: _ :: _ :: _, _, h => simp at h
        rintro _ _ ⟨rfl, rfl⟩
        refine ⟨_, rfl, rfl, _, rfl, ?_⟩
        show (if decide (V.int (v1 t : Int) = V.int 0) = true then _ else _)
        by_cases h0 : v1 t = 0
        · rw [show decide (V.int (v1 t : Int) = V.int 0) = true from decide_eq_true (by rw [h0]; rfl)]
          refine iteT ?_
          exact k0 (rd_zero h0) _ s2
        · rw [show decide (V.int (v1 t : Int) = V.int 0) = false from decide_eq_false (by intro z; injection z with z; omega)]
          refine iteF ?_
          obtain ⟨w0, r0, hws⟩ : ∃ w0 r0, wds t = w0 :: r0 := by
            cases e : wds t with
            | nil => exact absurd e (spl_ne _ _ _)
            | cons a b => exact ⟨a, b, rfl⟩
          have e0 : v0 t = nv w0 := by unfold v0; rw [hws]; rfl
          obtain ⟨q1, q2⟩ := hpl w0 (by rw [hws]; simp)
          rw [hws] at hp2
          refine ⟨_, rfl, _, rfl, p, _, _, vS w0, rfl, rfl, SqL.of hp2, atI_nat (j := 0) rfl, S w0, (nv w0 : Int), rfl, plain_int q1 (by omega), by rw [S_len]; omega, _, _, rfl, rfl, .inl (by unfold sg; split <;> exact ⟨by decide, by decide⟩), _, rfl, by show 2 ≤ sizeLine; decide, fun T hT => ?_⟩
          refine k1 _ _ (rd_some hok h0) T _ (Same.new s2 hT) (s2.free hT) ?_
          rw [upd_same, e0]
      · rw [Bool.eq_false_iff.mpr hok]
        refine iteT ?_
        refine k0 ?_ _ s2
        unfold rd
        rw [if_neg hok]
    · exact ⟨_, rfl, _, _, _, _, false, rfl, .ty _, hty, hk, _, rfl, iteT k⟩
end
end QQ
namespace QQ
open PySem PySem.Spec PyProof.Rows L2 WE SX
/-- the error's facts -/
structure ErrTxt (K : PySem.W.Frag) (mg : Str → Option Value) (CI W fE : Addr) : Prop where
  up : UpTxt K mg "WireError" W
  oex : OexC K CI
  gC : mg "InvalidNumber" = some (.ref CI)
  no : PySem.W.findIn K (.ref CI) "given" = some none
  iC : PySem.W.findIn K (.ref CI) "__init__" = some (some (.ref fE))
  tI : PySem.W.typeIn K (.ref fE) = some (.type "function")
theorem dv_lt : ∀ (cs : List Nat) (acc : Nat), NumText.AllDigits cs → cs.foldl (fun acc c => acc * 10 + (c - 48)) acc < (acc + 1) * 10 ^ cs.length
  | [], acc, _ => by simp
  | c :: r, acc, h => by
    have hc := h.head
    have := dv_lt r (acc * 10 + (c - 48)) h.tail
    rw [List.foldl_cons, List.length_cons, Nat.pow_succ]
    refine Nat.lt_of_lt_of_le this ?_
    rw [Nat.mul_comm (10 ^ r.length) 10, ← Nat.mul_assoc]
    exact Nat.mul_le_mul_right _ (by omega)
theorem nv_lt {w : List Nat} (h : plainL w = true) (hl : w.length ≤ 60) : nv w < 2 ^ 200 := by
  have h1 := dv_lt w 0 (allD (plain_parts h).2.1)
  have h2 : 10 ^ w.length ≤ 10 ^ 60 := Nat.pow_le_pow_right (by decide) hl
  have h3 : 10 ^ 60 < 2 ^ 200 := by decide
  have e : nv w = w.foldl (fun acc c => acc * 10 + (c - 48)) 0 := rfl
  rw [e]
  omega
theorem ok_parts {t : List Nat} (h : okT t = true) : (wds t).length ≤ 2 ∧ ∀ w ∈ wds t, plainL w = true ∧ w.length ≤ 60 := by
  unfold okT at h
  rw [Bool.and_eq_true, decide_eq_true_eq, List.all_eq_true] at h
  refine ⟨h.1, fun w hw => ?_⟩
  have := h.2 w hw
  unfold okW at this
  rw [Bool.and_eq_true, decide_eq_true_eq] at this
  exact this
theorem v0_lt {t : List Nat} (h : okT t = true) : v0 t < 2 ^ 200 := by
  obtain ⟨_, hw⟩ := ok_parts h
  unfold v0
  cases e : wds t with
  | nil => exact absurd e (spl_ne _ _ _)
  | cons a r =>
    obtain ⟨q1, q2⟩ := hw a (by rw [e]; simp)
    exact nv_lt q1 q2
theorem v1_lt {t : List Nat} (h : okT t = true) : v1 t < 2 ^ 200 := by
  obtain ⟨_, hw⟩ := ok_parts h
  unfold v1
  split
  · rename_i a b e
    obtain ⟨q1, q2⟩ := hw b (by rw [e]; simp)
    exact nv_lt q1 q2
  · decide
theorem rd_bounds {t : List Nat} {p q : Int} (h : rd t = some (p, q)) : p.natAbs < 2 ^ 200 ∧ q.natAbs < 2 ^ 200 ∧ q ≠ 0 := by
  unfold rd at h
  split at h
  · rename_i hok
    split at h
    · cases h
    · rename_i h0
      injection h with h
      injection h with h1 h2
      subst h1
      subst h2
      have a0 := v0_lt hok
      have a1 := v1_lt hok
      refine ⟨?_, by omega, by omega⟩
      rw [Int.natAbs_mul]
      have : (sg t).natAbs = 1 := by unfold sg; split <;> rfl
      rw [this]
      omega
  · cases h
theorem low_le (p q : Int) : (lowP p q).1.natAbs ≤ p.natAbs ∧ (lowP p q).2.natAbs ≤ q.natAbs := by
  have s : (sgn q).natAbs = 1 := by unfold sgn; split <;> rfl
  unfold lowP
  refine ⟨?_, ?_⟩
  · show (sgn q * (p / _)).natAbs ≤ _
    rw [Int.natAbs_mul, s, Nat.one_mul]
    exact Int.natAbs_ediv_le_natAbs _ _
  · show (sgn q * (q / _)).natAbs ≤ _
    rw [Int.natAbs_mul, s, Nat.one_mul]
    exact Int.natAbs_ediv_le_natAbs _ _
theorem lt_1900 {n : Nat} (h : n < 2 ^ 200) : n < 2 ^ 1900 := Nat.lt_of_lt_of_le h (Nat.pow_le_pow_right (by decide) (by decide))
def spParse (K : PySem.W.Frag) (C CI : Addr) : Sp := fun vs H Q E => (∃ t : List Nat, vs = [vS t] ∧ t.length ≤ 500 ∧ (told t = none → ∀ d H', Same H H' → H d = none → H' d = some (.xd [("given", vS t)]) → E (.ref CI) (some d) H') ∧ (∀ r, told t = some r → ∀ q H', Same H H' → H q = none → RatAt C H' q r → Q (.ref q) H')) ∨
  (∃ v, vs = [v] ∧ NoTxt K H v ∧ ∀ d H', Same H H' → H d = none → H' d = some (.xd [("given", v)]) → E (.ref CI) (some d) H')
section
variable {P : Program} {w : World} {K : PySem.W.Frag} {mg : Str → Option Value} {base : Heap} {f C CI W fE : Addr} {fd fdE : FuncData} {tF : Tok}
theorem scEr : FnScope ["self", "given"] ["self", "given"] (defScope sErr) := ⟨rfl, rfl, rfl, by decide +kernel, rfl, by decide +kernel, by decide +kernel⟩
theorem ok_err (F : Fun K "__init__" "InvalidNumber.__init__" sErr f fd) (T : ErrTxt K mg CI W fE) : FnOk P w K mg base CX0 1 f fd ["self", "given"] (spErr CI) := by
  refine F.ok scEr (fun vs H Q E h => ?_) (fun cdv A outer s H vs Q E hr h => ?_)
  · obtain ⟨a, v, rfl, _⟩ := h
    rfl
  · obtain ⟨a, v, rfl, ha, k⟩ := h
    refine ⟨_, pss_cons (ps_expr (pe_weinit (by rfl) T.up (pa_cons (pv 0) (pa_cons (pv 1) pa_nil)))) (pss_one (ps_ost (pv 0) (pv 1))), ?_⟩
    refine ⟨_, rfl, _, rfl, a, CI, [v], rfl, by show 1 ≤ 1000; decide, T.oex, ha, ?_⟩
    exact ⟨_, rfl, _, rfl, a, CI, rfl, T.oex, T.no, .inl ⟨ha, fun dx hn hne => k dx hn hne⟩⟩
theorem scPa : FnScope ["text", "found"] ["text"] (defScope sParse) := ⟨rfl, rfl, rfl, by decide +kernel, rfl, by decide +kernel, by decide +kernel⟩
theorem ok_parse {fR fN fS : Addr} {fdR fdN fdS : FuncData} (F : Fun K "parse" "Ratio.parse" sParse f fd) (T : RTxt K mg C) (B : Blt mg) (TE : ErrTxt K mg CI W fE) (GE : FnOk P w K mg base CX0 1 fE fdE ["self", "given"] (spErr CI)) (bE : L2.Binds K fdE ["self", "given"] [])
    (GR : FnOk P w K mg base CX0 2 fR fdR ["text"] (spRead K)) (bR : L2.Binds K fdR ["text"] []) (mR : mg "read_ratio" = some (.ref fR)) (kR : PySem.W.keepIn K (.ref fR) = true)
    (MK : Mk K C fN) (GN : FnOk P w K mg base CX0 2 fN fdN ["self", "top", "bottom"] (spInit C)) (bN : L2.Binds K fdN ["self", "top", "bottom"] []) (mS : Meth K C "__str__" fS) (GS : FnOk P w K mg base CX0 1 fS fdS ["self"] (spStr C)) (bS : L2.Binds K fdS ["self"] []) :
    FnOk P w K mg base (L2.CX P w) 4 f fd ["text"] (spParse K C CI) := by
  refine F.okX scPa (fun vs H Q E h => ?_) (fun cdv A outer s H vs Q E hr h => ?_)
  · rcases h with ⟨t, rfl, _⟩ | ⟨v, rfl, _⟩ <;> rfl
  · have r2 : Room 2 _ := hr.mono (by decide)
    refine ⟨_, pss_cons (ps_set (i := 1) scPa.nd rfl (Or.inl rfl) (pe_call GR r2 (by rfl) mR kR bR .nil pass0 (pa_cons (pv 0) pa_nil)))
      (pss_cons (ps_if (PW.pt (pw_or (pt_cmpR op_isN (pv 1) pe_non (nomark _)) (pw_or1 (pt_cmpR op_ne (pe_callTy (call_strO mS GS hr bS pass0) (by rfl) B.str (by decide +kernel) (pa_cons (pe_make MK GN hr (by rfl) T.mgC bN .nil pass0 (pa_cons (pe_ix ix_tup (pv 1) pe_int (fun _ _ => rfl)) (pa_cons (pe_ix ix_tup (pv 1) pe_int (fun _ _ => rfl)) pa_nil))) pa_nil)) (pv 0) (nomark _))))) (pss_one (ps_raise rfl (takes_of rfl rfl rfl rfl) (pmk_oex TE.oex TE.iC TE.tI GE r2 bE .nil pass0 (by rfl) TE.gC (pa_cons (pv 0) pa_nil)))) pss_nil)
      (pss_one (ps_ret (pe_make MK GN hr (by rfl) T.mgC bN .nil pass0 (pa_cons (pe_ix ix_tup (pv 1) pe_int (fun _ _ => rfl)) (pa_cons (pe_ix ix_tup (pv 1) pe_int (fun _ _ => rfl)) pa_nil)))))), ?_⟩
    rcases h with ⟨t, rfl, ht, k0, k1⟩ | ⟨v, rfl, hn, k⟩
    · refine ⟨_, rfl, .inl ⟨t, rfl, ht, fun hrd H1 s1 => ?_, fun p q hrd T0 H1 s1 hT0 eT0 => ?_⟩⟩
      · refine ⟨_, rfl, rfl, _, rfl, iteT ?_⟩
        exact ⟨_, rfl, err_made fun d hd => k0 (told_none hrd) d _ (Same.new s1 hd) (s1.free hd) upd_same⟩
      · obtain ⟨bp, bq, hq0⟩ := rd_bounds hrd
        obtain ⟨l1, l2⟩ := low_le p q
        refine ⟨_, rfl, rfl, _, rfl, iteF ?_⟩
        refine ⟨_, rfl, T0, _, _, _, rfl, rfl, SqT.of eT0, rfl, _, rfl, T0, _, _, _, rfl, rfl, SqT.of eT0, rfl, fun o1 x1 ho1 hx1 nx1 => ?_⟩
        have sB1 : Same H1 (upd (upd H1 x1 (.own o1)) o1 (.ins C x1 [])) := Same.new (Same.put hx1) (by rw [upd_ne (Ne.symm nx1)]; exact ho1)
        refine ⟨o1, x1, p, q, rfl, upd_same, hq0, bq, fun H2 kp2 e2 => ⟨rfl, ?_⟩⟩
        have s2 : Same H1 H2 := fun c o e => kp2 c o (sB1 _ _ e) (ne_of_none e ho1)
        refine ⟨o1, x1, _, rfl, e2, o1, lowP p q, rfl, ⟨x1, e2⟩, lt_1900 (by omega), lt_1900 (by omega), _, rfl, _, rfl, rfl, _, rfl, ?_⟩
        show (if (!decide (V.str (S (strR (lowP p q))) = V.str (S t))) = true then _ else _)
        by_cases he : strR (lowP p q) = t
        · rw [show decide (V.str (S (strR (lowP p q))) = V.str (S t)) = true from decide_eq_true (by rw [he])]
          refine iteF ?_
          have s12 := s1.trans s2
          refine ⟨_, rfl, T0, _, _, _, rfl, rfl, SqT.of (s2 _ _ eT0), rfl, _, rfl, T0, _, _, _, rfl, rfl, SqT.of (s2 _ _ eT0), rfl, fun o2 x2 ho2 hx2 nx2 => ?_⟩
          have sB2 : Same H2 (upd (upd H2 x2 (.own o2)) o2 (.ins C x2 [])) := Same.new (Same.put hx2) (by rw [upd_ne (Ne.symm nx2)]; exact ho2)
          refine ⟨o2, x2, p, q, rfl, upd_same, hq0, bq, fun H3 kp3 e3 => ⟨rfl, ?_⟩⟩
          have s3 : Same H2 H3 := fun c o e => kp3 c o (sB2 _ _ e) (ne_of_none e ho2)
          exact k1 _ (told_some hrd he) o2 H3 (s12.trans s3) (s12.free ho2) ⟨x2, e3⟩
        · rw [show decide (V.str (S (strR (lowP p q))) = V.str (S t)) = false from decide_eq_false (fun z => he (S_inj (by injection z)))]
          refine iteT ?_
          have s12 := s1.trans s2
          exact ⟨_, rfl, err_made fun d hd => k0 (told_no hrd he) d _ (Same.new s12 hd) (s12.free hd) upd_same⟩
    · refine ⟨_, rfl, .inr ⟨v, rfl, hn, ?_⟩⟩
      refine ⟨_, rfl, rfl, _, rfl, iteT ?_⟩
      exact ⟨_, rfl, err_made fun d hd => k d _ (Same.new (Same.refl _) hd) hd upd_same⟩
end
end QQ
namespace QQ
open PySem PySem.Spec PyProof.Rows L2 WE SX
/-! ### xs != [] -/
section
variable {X : Cx}
def rNeNil (K : PySem.W.Frag) : R2 := fun x y H Q => ∃ (l r : Addr) (xs : List V), x = .ref l ∧ y = .ref r ∧ SqL K H l xs ∧ SqL K H r [] ∧ Q (.bl (!xs.isEmpty)) H
theorem op_neNil (hu : X.A.units < cLine) : OpR X (compareOp .NotEq) (rNeNil X.K) := by
  intro pins s σ H x y v u Q I rx ry h
  obtain ⟨l, r, xs, rfl, rfl, hl, hr, q⟩ := h
  obtain rfl : v = Value.ref l := rx
  obtain rfl : u = Value.ref r := ry
  obtain ⟨us, rv, p, hz⟩ := I.list hl
  obtain ⟨ws, rw', p', hz'⟩ := I.list hr
  cases rw'
  cases rv with
  | nil =>
    refine SeqAt.RcNeAt.lists (e := fun j => true) p.isList p'.isList (by simp) hu (fun j h1 h2 => by simp at h1) _ _ _ _ (fin_bl I q ?_)
    simp
  | cons a b =>
    refine SeqAt.RcNeAt.lists_lengths p.isList p'.isList (by simp) hu _ _ _ _ (fin_bl I q ?_)
    simp
end
theorem SqL.same {K : PySem.W.Frag} {H H' : Hp} {a : Addr} {xs : List V} (h : SqL K H a xs) (e : Same H H') : SqL K H' a xs :=
  h.elim (fun h => .inl (h.elim (fun h => .inl (e _ _ h)) fun ⟨o, h⟩ => .inr ⟨o, e _ _ h⟩)) fun h => .inr h
/-! ### the law's draws -/
def StAt (H : Hp) (S : Addr) : Prop := ∃ i j : Int, H S = some (.lst [.int i, .int j])
def SameBut (S : Addr) (H H' : Hp) : Prop := ∀ b o, H b = some o → b ≠ S → H' b = some o
theorem SameBut.trans {S : Addr} {H H1 H2 : Hp} (a : SameBut S H H1) (b : SameBut S H1 H2) : SameBut S H H2 := fun c o h n => b c o (a c o h n) n
theorem SameBut.of {S : Addr} {H H1 : Hp} (a : Same H H1) : SameBut S H H1 := fun c o h _ => a c o h
theorem SameBut.set {H : Hp} {S : Addr} {o : HO} : SameBut S H (upd H S o) := fun b u e n => by rw [upd_ne n]; exact e
theorem StAt.same {H H' : Hp} {S : Addr} (T : StAt H S) (s : Same H H') : StAt H' S := by
  obtain ⟨i, j, h⟩ := T
  exact ⟨i, j, s _ _ h⟩
theorem emod_range {a b : Int} (h : 0 < b) : 0 ≤ a % b ∧ a % b < b := ⟨Int.emod_nonneg _ (by omega), Int.emod_lt_of_pos _ h⟩
def spDraws (K : PySem.W.Frag) : Sp := fun vs H Q _ => ∃ (a : Addr) (zs : List Int) (k : Int), vs = [.ref a, .int k] ∧ SqL K H a (zs.map V.int) ∧ 0 ≤ k ∧ k < 1000 ∧ ∀ S H', Same H H' → H S = none → StAt H' S → Q (.ref S) H'
def spDraw : Sp := fun vs H Q _ => ∃ (S : Addr) (many : Int), vs = [.ref S, .int many] ∧ StAt H S ∧ 0 < many ∧ many < 2 ^ 200 ∧
  ∀ d H', 0 ≤ d → d < many → StAt H' S → SameBut S H H' → Q (.int d) H'
section
variable {P : Program} {w : World} {K : PySem.W.Frag} {mg : Str → Option Value} {base : Heap} {f C CI W fE : Addr} {fd fdE : FuncData} {tF : Tok}
abbrev nDs : List Str := ["_law_script", "_law_k", "_law_cell", "_law_seed"]
theorem scDs : FnScope nDs ["_law_script", "_law_k"] (defScope sDraws) := ⟨rfl, rfl, rfl, by decide +kernel, rfl, by decide +kernel, by decide +kernel⟩
theorem ok_draws (F : Fun K "_law_draws" "_law_draws" sDraws f fd) (B : Blt mg) : FnOk P w K mg base CX0 1 f fd ["_law_script", "_law_k"] (spDraws K) := by
  refine F.ok scDs (fun vs H Q E h => ?_) (fun cdv A outer s H vs Q E hr h => ?_)
  · obtain ⟨a, zs, k, rfl, _⟩ := h
    rfl
  · obtain ⟨a, zs, k, rfl, hS, hk0, hk1, kk⟩ := h
    have hu0 : _ < _ := hr.units0
    refine ⟨_, pss_cons (ps_set (i := 2) scDs.nd rfl (Or.inl rfl) pe_int)
      (C8.pss_cut (ps_if (pt_cmpR (op_neNil hu0) (pv 0) (pe_lst pa_nil) (nomark _)) (pss_one (ps_set (i := 2) scDs.nd rfl (Or.inl rfl) (pe_ix ix_list (pv 0) (pe_op op_mod (pe_callTy call_int1 (by rfl) B.int (by decide +kernel) (pa_cons (pv 1) pa_nil)) (pe_callB call_len_seq (by rfl) B.len PySem.boot_len (pa_cons (pv 0) pa_nil))) (fun _ _ => rfl)))) pss_nil)
      (C8.pss_cut (ps_if (pt_cmpR op_ge (pv 1) (pe_callB call_len_seq (by rfl) B.len PySem.boot_len (pa_cons (pv 0) pa_nil)) (nomark _)) (pss_one (ps_set (i := 2) scDs.nd rfl (Or.inl rfl) (pe_op op_mod (pe_callTy call_int1 (by rfl) B.int (by decide +kernel) (pa_cons (pv 2) pa_nil)) pe_int))) pss_nil)
      (pss_cons (ps_set (i := 3) scDs.nd rfl (Or.inl rfl) (pe_op op_mod (pe_op op_mul (pe_callTy call_int1 (by rfl) B.int (by decide +kernel) (pa_cons (pe_op op_add (pe_op op_add (pe_op op_mod (pe_callTy call_int1 (by rfl) B.int (by decide +kernel) (pa_cons (pv 2) pa_nil)) pe_int) (pe_op op_mul pe_int (pv 1))) pe_int) pa_nil)) pe_int) pe_int))
      (pss_one (ps_ret (pe_lst (pa_cons (pe_op op_mul (pv 2) (pe_callTy call_int1 (by rfl) B.int (by decide +kernel) (pa_cons (pe_cmpR op_ge (pv 2) (pe_op op_pow pe_int pe_int) (nomark _)) pa_nil))) (pa_cons (pv 3) pa_nil)))))))), ?_⟩
    refine ⟨fun σ' H' => ∃ c : Int, σ' = [some (.ref a), some (.int k), some (.int c), none] ∧ Same H H' ∧ SqL K H' a (zs.map V.int), ?_, ?_⟩
    · refine ⟨_, rfl, by show 0 ≤ sizeLine; decide, fun n hn => ?_⟩
      have sn : Same H (upd H n (.lst [])) := Same.put hn
      have hSn := SqL.same hS sn
      refine ⟨a, n, zs.map V.int, rfl, rfl, hSn, SqL.of upd_same, _, rfl, ?_⟩
      cases zs with
      | nil => exact iteF ⟨0, rfl, sn, hSn⟩
      | cons z zr =>
        refine iteT ?_
        have hl : (0 : Int) < (((z :: zr).map V.int).length : Int) := by rw [List.length_map, List.length_cons]; omega
        have hr := emod_range (a := k) hl
        have ht : (k % (((z :: zr).map V.int).length : Int)).toNat < (z :: zr).length := by rw [List.length_map] at hr ⊢; omega
        refine ⟨_, rfl, _, rfl, .inl ⟨k, rfl, _, rfl, a, _, rfl, .inl hSn, _, _, rfl, rfl, hl, a, _, _, .int ((z :: zr)[(k % (((z :: zr).map V.int).length : Int)).toNat]), rfl, rfl, hSn, ?_, _, rfl, sn, hSn⟩⟩
        have e : k % (((z :: zr).map V.int).length : Int) = (((k % (((z :: zr).map V.int).length : Int)).toNat : Nat) : Int) := by omega
        conv => lhs; rw [e]
        exact atI_nat (by rw [List.getElem?_map, List.getElem?_eq_getElem ht]; rfl)
    rintro _ H1 ⟨c, rfl, s1, hS1⟩
    refine ⟨fun σ' H' => ∃ c : Int, σ' = [some (.ref a), some (.int k), some (.int c), none] ∧ H1 = H', ?_, ?_⟩
    · refine ⟨_, rfl, _, rfl, a, _, rfl, .inl hS1, _, _, rfl, rfl, _, rfl, ?_⟩
      refine ite2 (fun _ => ?_) (fun _ => ⟨c, rfl, rfl⟩)
      exact ⟨_, rfl, .inl ⟨_, rfl, _, _, rfl, rfl, (by show (0 : Int) < 1000003; decide), _, rfl, rfl⟩⟩
    rintro _ _ ⟨c2, rfl, rfl⟩
    refine ⟨_, rfl, .inl ⟨_, rfl, _, _, rfl, rfl, (by show (0 : Int) < 2147483629; decide), _, rfl, _, _, rfl, rfl, .inl ⟨by decide, by decide⟩, _, _, rfl, rfl, _, _, rfl, rfl, .inl ⟨_, rfl, _, _, rfl, rfl, .inr ⟨by decide, by decide⟩, _, _, rfl, rfl, (by show (0 : Int) < 2147483647; decide), ?_⟩⟩⟩
    refine ⟨_, rfl, _, rfl, _, _, rfl, rfl, ⟨by decide, by decide, by decide⟩, _, _, rfl, rfl, .inr ⟨_, rfl, _, _, rfl, rfl, .inr ?_, _, rfl, by show 2 ≤ sizeLine; decide, fun S hS => ?_⟩⟩
    · split <;> exact ⟨by decide, by decide⟩
    · exact kk S _ (Same.new s1 hS) (s1.free hS) ⟨_, _, upd_same⟩
theorem scDr : FnScope ["_law_draws_here", "_law_upto", "_law_digit"] ["_law_draws_here", "_law_upto"] (defScope sDraw) := ⟨rfl, rfl, rfl, by decide +kernel, rfl, by decide +kernel, by decide +kernel⟩
theorem ok_draw (F : Fun K "_law_draw" "_law_draw" sDraw f fd) (B : Blt mg) : FnOk P w K mg base CX0 1 f fd ["_law_draws_here", "_law_upto"] spDraw := by
  refine F.ok scDr (fun vs H Q E h => ?_) (fun cdv A outer s H vs Q E hr h => ?_)
  · obtain ⟨S, many, rfl, _⟩ := h
    rfl
  · obtain ⟨S, many, rfl, ⟨i, j, hS⟩, hm, hm2, k⟩ := h
    refine ⟨_, pss_cons (ps_if (pt_cmpR op_gt (pe_ix ix_list (pv 0) pe_int (fun _ _ => rfl)) pe_int (nomark _))
        (pss_cons (ps_set (i := 2) scDr.nd rfl (Or.inl rfl) (pe_op op_mod (pe_callTy call_int1 (by rfl) B.int (by decide +kernel) (pa_cons (pe_ix ix_list (pv 0) pe_int (fun _ _ => rfl)) pa_nil)) (pv 1)))
        (pss_cons (ps_asg (pe_op op_fdivW (pe_ix ix_list (pv 0) pe_int (fun _ _ => rfl)) (pv 1)) (pg_sub (pv 0) pe_int set_list))
        (pss_one (ps_ret (pv 2))))) pss_nil)
      (pss_cons (ps_asg (pe_op op_mod (pe_callTy call_int1 (by rfl) B.int (by decide +kernel) (pa_cons (pe_op op_add (pe_op op_mul (pe_ix ix_list (pv 0) pe_int (fun _ _ => rfl)) pe_int) pe_int) pa_nil)) pe_int) (pg_sub (pv 0) pe_int set_list))
      (pss_one (ps_ret (pe_op op_mod (pe_callTy call_int1 (by rfl) B.int (by decide +kernel) (pa_cons (pe_op op_fdiv (pe_op op_mod (pe_callTy call_int1 (by rfl) B.int (by decide +kernel) (pa_cons (pe_op op_mul (pe_ix ix_list (pv 0) pe_int (fun _ _ => rfl)) (pe_ix ix_list (pv 0) pe_int (fun _ _ => rfl))) pa_nil)) pe_int) pe_int) pa_nil)) (pv 1))))), ?_⟩
    refine ⟨_, rfl, S, _, _, _, rfl, rfl, SqL.of hS, rfl, _, _, rfl, rfl, _, rfl, ?_⟩
    refine ite2 (fun _ => ?_) (fun _ => ?_)
    · refine ⟨_, rfl, S, _, _, _, rfl, rfl, SqL.of hS, rfl, .inl ⟨_, rfl, _, rfl, _, _, rfl, rfl, hm, ?_⟩⟩
      refine ⟨_, rfl, S, _, _, _, rfl, rfl, SqL.of hS, rfl, _, rfl, _, _, rfl, rfl, wide_div (b := 200) hm (by omega) (by decide) (by decide), _, rfl, S, _, _, 0, rfl, rfl, hS, rfl, ?_⟩
      refine ⟨_, rfl, ?_⟩
      exact k _ _ (emod_range hm).1 (emod_range hm).2 ⟨_, _, upd_same⟩ SameBut.set
    · refine ⟨_, rfl, S, _, _, _, rfl, rfl, SqL.of hS, rfl, _, _, rfl, rfl, .inr ⟨by decide, by decide⟩, _, _, rfl, rfl, .inl ⟨_, rfl, _, _, rfl, rfl, (by show (0 : Int) < 2147483647; decide), _, rfl, S, _, _, 1, rfl, rfl, hS, rfl, ?_⟩⟩
      have hr1 := emod_range (a := j * 48271 + 11) (b := 2147483647) (by decide)
      refine ⟨_, rfl, S, _, _, _, rfl, rfl, SqL.of upd_same, rfl, _, rfl, S, _, _, _, rfl, rfl, SqL.of upd_same, rfl, _, _, rfl, rfl, .inl ⟨by omega, by omega⟩, .inl ⟨_, rfl, _, _, rfl, rfl, (by show (0 : Int) < 2147483629; decide), _, _, rfl, rfl, ⟨by decide, by decide⟩, .inl ⟨_, rfl, _, rfl, _, _, rfl, rfl, hm, ?_⟩⟩⟩
      exact k _ _ (emod_range hm).1 (emod_range hm).2 ⟨_, _, upd_same⟩ SameBut.set
end
end QQ
namespace QQ
open PySem PySem.Spec PyProof.Rows L2 WE SX
def spLPlain : Sp := fun vs H Q _ => ∃ a : List Nat, vs = [vS a] ∧ a.length ≤ 900 ∧ ∀ H', Same H H' → Q (.bl (plainL a)) H'
def spLDiv : Sp := fun vs H Q _ => ∃ i j : Nat, vs = [.int (i : Int), .int (j : Int)] ∧ Q (.int (Nat.gcd i j : Int)) H
def odds (a : List Nat) : List Nat := a.filter fun c => !dig c
theorem odds_nil (a : List Nat) : (odds a).isEmpty = a.all dig := by
  unfold odds
  induction a with
  | nil => rfl
  | cons c r ih =>
    rw [List.filter_cons, List.all_cons]
    by_cases h : dig c = true
    · rw [h]; simpa using ih
    · rw [Bool.eq_false_iff.mpr h]; simp
theorem dS {x y : List Nat} : decide (V.str (S x) = V.str (S y)) = decide (x = y) := by
  by_cases h : x = y
  · rw [h]; simp
  · rw [decide_eq_false h, decide_eq_false fun z => h (S_inj (by injection z))]
section
variable {P : Program} {w : World} {K : PySem.W.Frag} {mg : Str → Option Value} {base : Heap} {f C CI W fE : Addr} {fd fdE : FuncData} {tF : Tok}
abbrev nLP : List Str := ["_law_text_here", "_law_sign"]
theorem scLP : FnScope nLP ["_law_text_here"] (defScope sLPlain) := ⟨rfl, rfl, rfl, by decide +kernel, rfl, by decide +kernel, by decide +kernel⟩
theorem ok_lplain (F : Fun K "_law_plain" "_law_plain" sLPlain f fd) (B : Blt mg) : FnOk P w K mg base CX0 1 f fd ["_law_text_here"] spLPlain := by
  refine F.ok scLP (fun vs H Q E h => ?_) (fun cdv A outer s H vs Q E hr h => ?_)
  · obtain ⟨a, rfl, _⟩ := h
    rfl
  · obtain ⟨a, rfl, hl, k⟩ := h
    have hu0 : _ < _ := hr.units0
    refine ⟨_, pss_cons (ps_if (PW.pt (pw_or (pt_cmpR op_eq (pv 0) pe_str (nomark _)) (pw_or1 (pt_cmpR (op_neNil hu0) (pe_lc (own := [("_law_sign", 1)]) (g := gName 1) rfl scLP.nd (pi_str (pv 0)) (blkOk_by (own := [("_law_sign", 1)]) (N := nLP) (sc := defScope sLPlain) (by decide +kernel))
        (fun _ _ _ _ _ => pg_name (i := 1) scLP.nd rfl (Or.inl rfl)) (fun _ _ _ _ _ => pts_one (pt_cmpR op_notIn_sign (pv 1) pe_str rfl)) (fun _ _ _ _ _ => pv 1)) (pe_lst pa_nil) (nomark _))))) (pss_one (ps_ret pe_bl)) pss_nil)
      (pss_one (ps_ret (pe_or (pe_cmpR op_eq (pv 0) pe_str (nomark _)) (pe_one (pe_cmpR op_ne (pe_ix ix_str (pv 0) pe_int (fun _ _ => rfl)) pe_str (nomark _)))))), ?_⟩
    have e0 : Str.ofString "" = S [] := by decide +kernel
    have e1 : Str.ofString "0" = S [48] := by decide +kernel
    refine ⟨_, rfl, rfl, _, rfl, ?_⟩
    show (if decide (V.str (S a) = V.str (Str.ofString "")) = true then _ else _)
    rw [e0, dS]
    by_cases hne : a = []
    · subst hne
      exact iteT (k _ (Same.refl _))
    rw [decide_eq_false hne]
    refine iteF ?_
    refine ⟨_, rfl, S a, rfl, fun D hD => ?_⟩
    have hsz : (S a).cps.size = a.length := by simp [S]
    refine WW.lcA (walk_str (z := S a)) (fun i => (odds (a.take i)).map fun c => vS [c]) (by simp [odds]) (fun i hi => small1000 (by rw [List.length_map]; have h1 : (odds (a.take i)).length ≤ (a.take i).length := List.length_filter_le _ _; rw [List.length_take] at h1; omega)) (fun acc => trivial) (fun i x H' hi hY => ?_) ?_
    · obtain ⟨rfl, c, hc, rfl⟩ := hY
      have hc' : a[i]? = some c := by simpa [S] using hc
      refine ⟨rfl, fun R NX hR hN => ⟨rfl, _, rfl, c, _, rfl, rfl, _, rfl, ?_⟩⟩
      have ef : decide (c ∈ (Str.ofString "0123456789").cps.toList) = dig c := by
        rw [figs_eq, Bool.eq_iff_iff, decide_eq_true_eq, ← mem_figs]
      have et : odds (a.take (i + 1)) = odds (a.take i) ++ (if dig c = true then [] else [c]) := by
        unfold odds
        rw [List.take_succ, hc', List.filter_append]
        congr 1
        by_cases h : dig c = true
        · simp [h]
        · simp [h]
      show (if (!decide (c ∈ (Str.ofString "0123456789").cps.toList)) = true then _ else _)
      rw [ef]
      by_cases h : dig c = true
      · rw [h]
        refine iteF (hN ?_)
        rw [et, if_pos h, List.append_nil]
      · rw [Bool.eq_false_iff.mpr h]
        refine iteT ⟨_, rfl, hR _ ?_⟩
        rw [et, if_neg h, List.map_append]
        rfl
    · rw [hsz, List.take_length]
      refine ⟨by show 0 ≤ sizeLine; decide, fun n hn => ?_⟩
      have hDn : D ≠ n := fun z => by rw [← z, upd_same] at hn; cases hn
      refine ⟨D, n, _, rfl, rfl, SqL.of (by rw [upd_ne hDn, upd_same]), SqL.of upd_same, _, rfl, ?_⟩
      have eE : ((odds a).map fun c => vS [c]).isEmpty = a.all dig := by rw [← odds_nil]; simp
      rw [eE]
      have sF : Same H (upd (upd H D (.lst ((odds a).map fun c => vS [c]))) n (.lst [])) := Same.new (Same.put hD) hn
      have k' := k _ sF
      unfold plainL at k'
      rw [show a.isEmpty = false by cases a; exact absurd rfl hne; rfl] at k'
      by_cases hd : a.all dig = true
      · rw [hd] at k' ⊢
        refine iteF ?_
        refine ⟨_, rfl, rfl, _, rfl, ?_⟩
        show (if decide (V.str (S a) = V.str (Str.ofString "0")) = true then _ else _)
        rw [e1, dS]
        by_cases h0 : a = [48]
        · rw [decide_eq_true h0] at k' ⊢
          exact iteT k'
        · rw [decide_eq_false h0] at k' ⊢
          refine iteF ?_
          cases a with
          | nil => exact absurd rfl hne
          | cons c r =>
            refine ⟨_, rfl, _, _, c, rfl, rfl, by rw [S_len, sizeLine_eq]; omega, atI_nat (xs := c :: r) (j := 0) rfl, rfl, ?_⟩
            show Q (.bl (!decide (V.str (S [c]) = V.str (Str.ofString "0")))) _
            rw [e1, dS]
            have : decide ([c] = [48]) = decide ((c :: r).head? = some 48) := by
              by_cases hc : c = 48
              · subst hc; simp
              · simp [hc]
            rw [this]
            exact k'
      · rw [Bool.eq_false_iff.mpr hd] at k' ⊢
        exact iteT k'
theorem scLD : FnScope ["_law_one", "_law_other"] ["_law_one", "_law_other"] (defScope sLDiv) := ⟨rfl, rfl, rfl, by decide +kernel, rfl, by decide +kernel, by decide +kernel⟩
def otherOf (σ : L2.St) : Nat := match σ[1]? with
  | some (some (V.int l)) => l.toNat
  | _ => 0
theorem ok_ldiv (F : Fun K "_law_divisor" "_law_divisor" sLDiv f fd) (B : Blt mg) : FnOk P w K mg base CX0 1 f fd ["_law_one", "_law_other"] spLDiv := by
  refine F.ok scLD (fun vs H Q E h => ?_) (fun cdv A outer s H vs Q E hr h => ?_)
  · obtain ⟨i, j, rfl, _⟩ := h
    rfl
  · obtain ⟨i, j, rfl, k⟩ := h
    refine ⟨_, pss_cons (ps_while PassesOwn.never (pt_cmpR op_ne (pv 1) pe_int (nomark _))
        (pss_one (ps_par (i := 0) (j := 1) (by rfl) scLD.nd rfl rfl (by decide) rfl rfl (pa_cons (pv 1) (pa_cons (pe_op op_mod (pe_callTy call_int1 (by rfl) B.int (by decide +kernel) (pa_cons (pv 0) pa_nil)) (pv 1)) pa_nil)) (by rfl))))
      (pss_one (ps_ret (pv 0))), ?_⟩
    refine while_by (fun σ' H' => ∃ a b : Nat, σ' = [some (.int (a : Int)), some (.int (b : Int))] ∧ H = H' ∧ Nat.gcd a b = Nat.gcd i j)
      (fun σ' _ => otherOf σ') ⟨i, j, rfl, rfl, rfl⟩ ?_ (fun σ' H' Q1 Q2 hq ⟨v, e, e1, b, e3, q⟩ => ⟨v, e, e1, b, e3, hq _ _ q⟩)
    rintro _ _ ⟨a, b, rfl, rfl, hg⟩
    refine ⟨_, rfl, rfl, _, rfl, ?_⟩
    show (if (!decide (V.int (b : Int) = V.int 0)) = true then _ else _)
    by_cases hb : b = 0
    · subst hb
      rw [show decide (V.int ((0 : Nat) : Int) = V.int 0) = true from decide_eq_true rfl]
      refine iteF ?_
      rw [Nat.gcd_zero_right] at hg
      refine ⟨_, rfl, ?_⟩
      rw [hg]
      exact k
    · rw [show decide (V.int (b : Int) = V.int 0) = false from decide_eq_false (by intro z; injection z with z; omega)]
      refine iteT ?_
      refine ⟨_, rfl, _, rfl, .inl ⟨_, rfl, _, rfl, _, _, rfl, rfl, (by show (0 : Int) < (b : Int); omega), _, _, rfl, ?_⟩⟩
      refine ⟨⟨b, a % b, ?_, rfl, ?_⟩, ?_⟩
      · show [some (V.int (b : Int)), some (V.int ((a : Int) % (b : Int)))] = _
        simp
      · rw [← hg, Nat.gcd_comm b, ← Nat.gcd_rec, Nat.gcd_comm]
      · show ((a : Int) % (b : Int)).toNat < ((b : Int)).toNat
        have := Int.emod_lt_of_pos (a : Int) (show (0 : Int) < (b : Int) by omega)
        omega
end
end QQ
namespace QQ
open PySem PySem.Spec PyProof.Rows L2 WE SX
def spDue : Sp := fun vs H Q _ => ∃ t : List Nat, vs = [vS t] ∧ t.length ≤ 500 ∧ (due t = none → ∀ H', Same H H' → Q .non H') ∧ (∀ p q, due t = some (p, q) → ∀ T H', Same H H' → H T = none → H' T = some (.tup [.int p, .int q]) → Q (.ref T) H')
theorem tn (t : List Nat) : decide (V.str (Txt.slice (S t) none (some 1)) = V.str (Str.ofString "-")) = neg t := by
  have eM : Str.ofString "-" = S [45] := by decide +kernel
  rw [slice_to (by decide), eM, dS, ← take_neg]
  show decide (t.take 1 = [45]) = _
  by_cases h : t.take 1 = [45]
  · rw [decide_eq_true h, h]; simp
  · rw [decide_eq_false h, decide_eq_false fun z => h (S_inj z)]
def bads (l : List (List Nat)) : List (List Nat) := l.filter fun w => !okW w
theorem bads_nil (l : List (List Nat)) : (bads l).isEmpty = l.all okW := by
  unfold bads
  induction l with
  | nil => rfl
  | cons c r ih =>
    rw [List.filter_cons, List.all_cons]
    by_cases h : okW c = true
    · rw [h]; simpa using ih
    · rw [Bool.eq_false_iff.mpr h]; simp
theorem sg_is (t : List Nat) : (1 : Int) - 2 * (if neg t = true then 1 else 0) = sg t := by
  unfold sg
  split <;> rfl
section
variable {P : Program} {w : World} {K : PySem.W.Frag} {mg : Str → Option Value} {base : Heap} {f C CI W fE : Addr} {fd fdE : FuncData} {tF : Tok}
abbrev nD : List Str := ["_law_text_here", "_law_rest", "_law_words", "_law_word", "_law_top", "_law_bottom"]
theorem scD : FnScope nD ["_law_text_here"] (defScope sDue) := ⟨rfl, rfl, rfl, by decide +kernel, rfl, by decide +kernel, by decide +kernel⟩
theorem ok_due {fP fV : Addr} {fdP fdV : FuncData} (F : Fun K "_law_due" "_law_due" sDue f fd) (B : Blt mg) (GP : FnOk P w K mg base CX0 1 fP fdP ["_law_text_here"] spLPlain) (bP : L2.Binds K fdP ["_law_text_here"] []) (mP : mg "_law_plain" = some (.ref fP)) (kP : PySem.W.keepIn K (.ref fP) = true)
    (GV : FnOk P w K mg base CX0 1 fV fdV ["_law_one", "_law_other"] spLDiv) (bV : L2.Binds K fdV ["_law_one", "_law_other"] []) (mV : mg "_law_divisor" = some (.ref fV)) (kV : PySem.W.keepIn K (.ref fV) = true) : FnOk P w K mg base CX0 2 f fd ["_law_text_here"] spDue := by
  refine F.ok scD (fun vs H Q E h => ?_) (fun cdv A outer s H vs Q E hr h => ?_)
  · obtain ⟨t, rfl, _⟩ := h
    rfl
  · obtain ⟨t, rfl, ht, k0, k1⟩ := h
    have hu0 : _ < _ := hr.units0
    refine ⟨_, C8.pss_cut (ps_set (i := 1) scD.nd rfl (Or.inl rfl) (pe_ifExp (pt_cmpR op_eq (pe_slice C8.sl_txt (pv 0) po_none (po_some pe_int)) pe_str (nomark _)) (pe_slice C8.sl_txt (pv 0) (po_some pe_int) po_none) (pv 0)))
      (pss_cons (ps_set (i := 2) scD.nd rfl (Or.inl rfl) (pe_split (pv 1) pe_str))
      (pss_cons (ps_if (PW.pt (pw_or (pt_cmpR op_gt (pe_callB call_len_seq (by rfl) B.len PySem.boot_len (pa_cons (pv 2) pa_nil)) pe_int (nomark _)) (pw_or1 (pt_cmpR (op_neNil hu0) (pe_lc (own := [("_law_word", 3)]) (g := gName 3) rfl scD.nd (pi_list (pv 2)) (blkOk_by (own := [("_law_word", 3)]) (N := nD) (sc := defScope sDue) (by decide +kernel))
          (fun _ _ _ _ _ => pg_name (i := 3) scD.nd rfl (Or.inl rfl)) (fun _ _ _ _ _ => pts_one (PW.pt (pw_or (pt_not (pt_val (pe_call GP hr (by rfl) mP kP bP .nil pass0 (pa_cons (pv 3) pa_nil)))) (pw_or1 (pt_cmpR op_gt (pe_callB call_len_str (by rfl) B.len PySem.boot_len (pa_cons (pv 3) pa_nil)) pe_int (nomark _)))))) (fun _ _ _ _ _ => pv 3)) (pe_lst pa_nil) (nomark _))))) (pss_one (ps_ret pe_non)) pss_nil)
      (pss_cons (ps_set (i := 4) scD.nd rfl (Or.inl rfl) (pe_callTy call_int_str (by rfl) B.int (by decide +kernel) (pa_cons (pe_ix ix_list (pv 2) pe_int (fun _ _ => rfl)) pa_nil)))
      (C8.pss_cut (ps_if (PW.pt (pw_and (pt_cmpR op_eq (pe_slice C8.sl_txt (pv 0) po_none (po_some pe_int)) pe_str (nomark _)) (pw_and1 (pt_cmpR op_eq (pv 4) pe_int (nomark _))))) (pss_one (ps_ret pe_non)) pss_nil)
      (pss_cons (ps_if (pt_cmpR op_eq (pe_callB call_len_seq (by rfl) B.len PySem.boot_len (pa_cons (pv 2) pa_nil)) pe_int (nomark _)) (pss_one (ps_ret (pe_tup (pa_cons (pe_op op_mul (pv 4) (pe_op op_sub pe_int (pe_op op_mul pe_int (pe_callTy call_int1 (by rfl) B.int (by decide +kernel) (pa_cons (pe_cmpR op_eq (pe_slice C8.sl_txt (pv 0) po_none (po_some pe_int)) pe_str (nomark _)) pa_nil))))) (pa_cons pe_int pa_nil))))) pss_nil)
      (pss_cons (ps_set (i := 5) scD.nd rfl (Or.inl rfl) (pe_callTy call_int_str (by rfl) B.int (by decide +kernel) (pa_cons (pe_ix ix_list (pv 2) pe_int (fun _ _ => rfl)) pa_nil)))
      (pss_cons (ps_if (PW.pt (pw_or (pt_cmpR op_lt (pv 5) pe_int (nomark _)) (pw_or1 (pt_cmpR op_ne (pe_call GV hr (by rfl) mV kV bV .nil pass0 (pa_cons (pv 4) (pa_cons (pv 5) pa_nil))) pe_int (nomark _))))) (pss_one (ps_ret pe_non)) pss_nil)
      (pss_one (ps_ret (pe_tup (pa_cons (pe_op op_mul (pv 4) (pe_op op_sub pe_int (pe_op op_mul pe_int (pe_callTy call_int1 (by rfl) B.int (by decide +kernel) (pa_cons (pe_cmpR op_eq (pe_slice C8.sl_txt (pv 0) po_none (po_some pe_int)) pe_str (nomark _)) pa_nil))))) (pa_cons (pv 5) pa_nil)))))))))))), ?_⟩
    have lS : (S t).length ≤ sizeLine := by rw [S_len, sizeLine_eq]; omega
    have rl : (rst t).length ≤ t.length := by unfold rst; split <;> simp
    refine ⟨fun σ' H' => σ' = [some (vS t), some (vS (rst t)), none, none, none, none] ∧ H = H', ?_, ?_⟩
    · refine ⟨_, rfl, 1, rfl, S t, rfl, lS, rfl, _, rfl, ?_⟩
      rw [tn]
      unfold rst
      by_cases hn : neg t = true
      · rw [hn, if_pos rfl]
        refine iteT ⟨_, rfl, 1, rfl, S t, rfl, lS, ?_⟩
        rw [slice_from (by decide)]
        exact ⟨rfl, rfl⟩
      · rw [Bool.eq_false_iff.mpr hn, if_neg (by simp)]
        exact iteF ⟨_, rfl, rfl, rfl⟩
    rintro _ _ ⟨rfl, rfl⟩
    refine ⟨_, rfl, ⟨_, rfl⟩, S (rst t), Str.ofString "/", rfl, rfl, by decide +kernel, by rw [S_len, sizeLine_eq]; omega, fun p hp0 => ?_⟩
    rw [split47]
    show _
    generalize eH1 : upd H p (.lst ((TL.spl [47] 0 [] (rst t)).map vS)) = H1
    have s1 : Same H H1 := by rw [← eH1]; exact Same.put hp0
    have hp : H1 p = some (.lst ((wds t).map vS)) := by rw [← eH1]; exact upd_same
    have wc := wds_count t
    refine ⟨_, rfl, p, _, rfl, .inl (SqL.of hp), _, _, rfl, rfl, _, rfl, ?_⟩
    by_cases h2 : (2 : Int) < (((wds t).map vS).length : Int)
    · rw [decide_eq_true h2]
      refine iteT ?_
      rw [List.length_map] at h2
      refine k0 ?_ _ s1
      unfold due okT
      rw [decide_eq_false (by omega)]
      rfl
    rw [decide_eq_false h2]
    refine iteF ?_
    rw [List.length_map] at h2
    have h2' : (wds t).length ≤ 2 := by omega
    refine ⟨_, rfl, p, rfl, ⟨_, SqL.of hp⟩, fun D hD => ?_⟩
    have hpD : p ≠ D := ne_of_none hp hD
    refine lc_it (walk_list (K := K) (a := p) (xs := (wds t).map vS)) (fun i H' => Same H1 H' ∧ H' D = some (.lst ((bads ((wds t).take i)).map vS))) ⟨Same.put hD, by rw [upd_same]; simp [bads]⟩ (fun i H' _ ⟨q, _⟩ => SqL.of (q _ _ hp)) (fun i x H' H'' hi ⟨q, qD⟩ hY => ?_) (fun H2 ⟨q, qD⟩ => ?_)
    · obtain ⟨rfl, hx⟩ := hY
      rw [List.getElem?_map] at hx
      cases e : (wds t)[i]? with
      | none => rw [e] at hx; cases hx
      | some u =>
        rw [e] at hx
        cases hx
        have ul := wds_len u (List.mem_of_getElem? e)
        have et : bads ((wds t).take (i + 1)) = bads ((wds t).take i) ++ (if okW u = true then [] else [u]) := by
          unfold bads
          rw [List.take_succ, e, List.filter_append]
          congr 1
          by_cases h : okW u = true
          · simp [h]
          · simp [h]
        have lt : ((bads ((wds t).take i)).map vS).length < sizeLine := small1000 (by
          rw [List.length_map]
          have h1 : (bads ((wds t).take i)).length ≤ ((wds t).take i).length := List.length_filter_le _ _
          rw [List.length_take] at h1
          omega)
        have notok : okW u = false → ∀ H5, Same H'' H5 → Same H1 (upd H5 D (.lst ((bads ((wds t).take i)).map vS ++ [vS u]))) ∧ (upd H5 D (.lst ((bads ((wds t).take i)).map vS ++ [vS u]))) D = some (.lst ((bads ((wds t).take (i + 1))).map vS)) := fun hb H5 s5 => by
          refine ⟨fun b o eb => ?_, ?_⟩
          · rw [upd_ne (ne_of_none eb hD)]
            exact s5 _ _ (q _ _ eb)
          · rw [upd_same, et, hb, if_neg (by simp), List.map_append]
            rfl
        refine ⟨rfl, _, rfl, u, rfl, by omega, fun H5 s5 => ⟨_, rfl, ?_⟩⟩
        by_cases hpl : plainL u = true
        · rw [hpl]
          refine iteF ?_
          refine ⟨_, rfl, S u, rfl, by rw [S_len, sizeLine_eq]; omega, _, _, rfl, rfl, _, rfl, ?_⟩
          have hz : decide ((60 : Int) < ((S u).length : Int)) = !decide (u.length ≤ 60) := by
            rw [S_len]
            by_cases h : u.length ≤ 60
            · rw [decide_eq_true h]; exact decide_eq_false (by omega)
            · rw [decide_eq_false h]; exact decide_eq_true (by omega)
          show (if decide ((60 : Int) < ((S u).length : Int)) = true then _ else _)
          rw [hz]
          have eo : okW u = decide (u.length ≤ 60) := by unfold okW; rw [hpl, Bool.true_and]
          by_cases h6 : u.length ≤ 60
          · rw [decide_eq_true h6]
            refine iteF ⟨q.trans s5, ?_⟩
            rw [et, eo, decide_eq_true h6, if_pos rfl, List.append_nil]
            exact s5 _ _ qD
          · rw [decide_eq_false h6]
            refine iteT ⟨_, rfl, _, s5 _ _ qD, lt, notok (by rw [eo, decide_eq_false h6]) _ s5⟩
        · rw [Bool.eq_false_iff.mpr hpl]
          refine iteT ⟨_, rfl, _, s5 _ _ qD, lt, notok (by unfold okW; rw [Bool.eq_false_iff.mpr hpl, Bool.false_and]) _ s5⟩
    rw [List.length_map, List.take_length] at qD
    refine ⟨by show 0 ≤ sizeLine; decide, fun n hn => ?_⟩
    have s2 : Same H1 (upd H2 n (.lst [])) := Same.new q hn
    have hDn : D ≠ n := fun z => by rw [← z, qD] at hn; cases hn
    refine ⟨D, n, _, rfl, rfl, SqL.of (by rw [upd_ne hDn]; exact qD), SqL.of upd_same, _, rfl, ?_⟩
    have eE : ((bads (wds t)).map vS).isEmpty = okT t := by
      have : ((bads (wds t)).map vS).isEmpty = (bads (wds t)).isEmpty := by simp
      rw [this, bads_nil]
      unfold okT
      rw [decide_eq_true h2', Bool.true_and]
    rw [eE]
    generalize eH3 : upd H2 n (.lst []) = H3 at s2 ⊢
    have s3 : Same H H3 := s1.trans s2
    have hp3 := s2 _ _ hp
    by_cases hok' : ¬ okT t = true
    · rw [Bool.eq_false_iff.mpr hok']
      refine iteT ?_
      refine k0 ?_ _ s3
      unfold due
      rw [if_neg hok']
    have hok : okT t = true := Classical.not_not.mp hok'
    rw [hok]
    refine iteF ?_
    obtain ⟨_, hpl⟩ := ok_parts hok
    obtain ⟨w0, r0, hws⟩ : ∃ w0 r0, wds t = w0 :: r0 := by
      cases e : wds t with
      | nil => exact absurd e (spl_ne _ _ _)
      | cons a b => exact ⟨a, b, rfl⟩
    have e0 : v0 t = nv w0 := by unfold v0; rw [hws]; rfl
    obtain ⟨q1, q2⟩ := hpl w0 (by rw [hws]; simp)
    have hp3' := hp3
    rw [hws] at hp3'
    refine ⟨_, rfl, p, _, _, vS w0, rfl, rfl, SqL.of hp3', atI_nat (j := 0) rfl, S w0, (nv w0 : Int), rfl, plain_int q1 (by omega), by rw [S_len]; omega, ?_⟩
    rw [← e0]
    have fin2 : ∀ (b : Bool), b = neg t → ((1 : Int) - 2 * (if b = true then 1 else 0)) = sg t := fun b hb => by rw [hb]; exact sg_is t
    have sgb : -(2 : Int) ^ 64 ≤ sg t ∧ sg t ≤ 2 ^ 64 := by unfold sg; split <;> decide
    have hb0 : ∀ b : Bool, -(2 : Int) ^ 64 < (1 : Int) - 2 * (if b = true then 1 else 0) ∧ (1 : Int) - 2 * (if b = true then 1 else 0) < 2 ^ 64 := fun b => by cases b <;> decide
    refine ⟨fun σ' H' => σ' = [some (vS t), some (vS (rst t)), some (.ref p), none, some (.int (v0 t : Int)), none] ∧ H3 = H' ∧ ¬ (neg t = true ∧ v0 t = 0), ?_, ?_⟩
    · refine ⟨_, rfl, 1, rfl, S t, rfl, lS, rfl, _, rfl, ?_⟩
      rw [tn]
      by_cases hn : neg t = true
      · rw [hn]
        refine iteT ?_
        refine ⟨_, rfl, rfl, _, rfl, ?_⟩
        show (if decide (V.int (v0 t : Int) = V.int 0) = true then _ else _)
        by_cases hz : v0 t = 0
        · rw [show decide (V.int (v0 t : Int) = V.int 0) = true from decide_eq_true (by rw [hz]; rfl)]
          refine iteT ?_
          exact k0 (due_zero hn hz) _ s3
        · rw [show decide (V.int (v0 t : Int) = V.int 0) = false from decide_eq_false (by intro z; injection z with z; omega)]
          exact iteF ⟨rfl, rfl, fun z => hz z.2⟩
      · rw [Bool.eq_false_iff.mpr hn]
        exact iteF ⟨rfl, rfl, fun z => Bool.noConfusion z.1⟩
    rintro _ _ ⟨rfl, rfl, hnz⟩
    refine ⟨_, rfl, p, _, rfl, .inl (SqL.of hp3), rfl, _, rfl, ?_⟩
    show (if decide (V.int (((wds t).map vS).length : Int) = V.int 1) = true then _ else _)
    rw [List.length_map]
    by_cases hl1 : (wds t).length = 1
    · rw [show decide (V.int ((wds t).length : Int) = V.int 1) = true from decide_eq_true (by rw [hl1]; rfl)]
      refine iteT ?_
      refine ⟨_, rfl, _, rfl, 1, rfl, S t, rfl, lS, rfl, .inr ⟨_, rfl, _, _, rfl, rfl, .inl ⟨by decide, by decide⟩, _, _, rfl, rfl, _, _, rfl, rfl, .inr ?_, by show 2 ≤ sizeLine; decide, fun T hT => ?_⟩⟩
      · exact hb0 _
      · refine k1 _ _ (due_one hok hnz hl1) T _ (Same.new s3 hT) (s3.free hT) ?_
        rw [upd_same, fin2 _ (tn t)]
    · rw [show decide (V.int ((wds t).length : Int) = V.int 1) = false from decide_eq_false (by intro z; injection z with z; omega)]
      refine iteF ?_
      obtain ⟨w1, hr0⟩ : ∃ w1, r0 = [w1] := by
        rw [hws] at hl1 h2'
        match r0, hl1, h2' with
        | [], h, _ => exact absurd rfl h
        | [w1], _, _ => exact ⟨w1, rfl⟩
        | _ :: _ :: _, _, h => simp at h
      subst hr0
      have e1 : v1 t = nv w1 := by unfold v1; rw [hws]
      obtain ⟨q3, q4⟩ := hpl w1 (by rw [hws]; simp)
      refine ⟨_, rfl, p, _, _, vS w1, rfl, rfl, SqL.of hp3', atI_nat (j := 1) rfl, S w1, (nv w1 : Int), rfl, plain_int q3 (by omega), by rw [S_len]; omega, ?_⟩
      rw [← e1]
      refine ⟨_, rfl, _, _, rfl, rfl, _, rfl, ?_⟩
      by_cases hb2 : v1 t < 2
      · rw [show decide ((v1 t : Int) < 2) = true from decide_eq_true (by omega)]
        refine iteT ?_
        exact k0 (due_low hl1 (.inl hb2)) _ s3
      · rw [show decide ((v1 t : Int) < 2) = false from decide_eq_false (by omega)]
        refine iteF ?_
        refine ⟨_, rfl, _, rfl, v0 t, v1 t, rfl, rfl, _, rfl, ?_⟩
        show (if (!decide (V.int (Nat.gcd (v0 t) (v1 t) : Int) = V.int 1)) = true then _ else _)
        by_cases hg : Nat.gcd (v0 t) (v1 t) = 1
        · rw [show decide (V.int (Nat.gcd (v0 t) (v1 t) : Int) = V.int 1) = true from decide_eq_true (by rw [hg]; rfl)]
          refine iteF ?_
          refine ⟨_, rfl, _, rfl, 1, rfl, S t, rfl, lS, rfl, .inr ⟨_, rfl, _, _, rfl, rfl, .inl ⟨by decide, by decide⟩, _, _, rfl, rfl, _, _, rfl, rfl, .inr ?_, _, rfl, by show 2 ≤ sizeLine; decide, fun T hT => ?_⟩⟩
          · exact hb0 _
          · refine k1 _ _ (due_two hok hnz hl1 hb2 hg) T _ (Same.new s3 hT) (s3.free hT) ?_
            rw [upd_same, fin2 _ (tn t)]
        · rw [show decide (V.int (Nat.gcd (v0 t) (v1 t) : Int) = V.int 1) = false from decide_eq_false (by intro z; injection z with z; omega)]
          refine iteT ?_
          exact k0 (due_low hl1 (.inr hg)) _ s3
end
end QQ
namespace QQ
open PySem PySem.Spec PyProof.Rows L2 WE SX
theorem passLx {X : Cx} (σ : L2.St) : PassesAt (L2.CX X.prog X.w) X σ (fun _ _ _ => False) := fun _ _ _ _ _ _ h => by
  obtain ⟨_, _, _, _, _, _, _, _, _, _, _, _, z⟩ := h
  exact z.elim
theorem told_str {t : List Nat} {r : Int × Int} (h : told t = some r) : strR r = t ∧ r.1.natAbs < 2 ^ 200 ∧ r.2.natAbs < 2 ^ 200 := by
  unfold told at h
  cases e : rd t with
  | none => rw [e] at h; cases h
  | some pq =>
    obtain ⟨p, q⟩ := pq
    rw [e] at h
    have h' : (if strR (lowP p q) = t then some (lowP p q) else none) = some r := h
    split at h'
    · rename_i hs
      injection h' with h'
      subst h'
      obtain ⟨b1, b2, _⟩ := rd_bounds e
      obtain ⟨l1, l2⟩ := low_le p q
      exact ⟨hs, by omega, by omega⟩
    · cases h'
def spTold (K : PySem.W.Frag) : Sp := fun vs H Q _ => (∃ t : List Nat, vs = [vS t] ∧ t.length ≤ 500 ∧ (told t = none → ∀ q H', Same H H' → H q = none → H' q = some (.lst [.str "no", vS t]) → Q (.ref q) H') ∧ (∀ r, told t = some r → ∀ q H', Same H H' → H q = none → H' q = some (.lst [.str "ratio", .int r.1, .int r.2]) → Q (.ref q) H')) ∨
  (∃ v, vs = [v] ∧ NoTxt K H v ∧ ∀ q H', Same H H' → H q = none → H' q = some (.lst [.str "no", v]) → Q (.ref q) H')
def spRight : Sp := fun vs H Q _ => ∃ t : List Nat, vs = [vS t] ∧ t.length ≤ 500 ∧ ∀ H', Same H H' → Q (.bl true) H'
section
variable {P : Program} {w : World} {K : PySem.W.Frag} {mg : Str → Option Value} {base : Heap} {f C CI W fE qP fP : Addr} {fd fdE fdP : FuncData} {tF : Tok}
abbrev nT : List Str := ["_law_value", "_law_found", "e"]
theorem scT : FnScope nT ["_law_value"] (defScope sTold) := ⟨rfl, rfl, rfl, by decide +kernel, rfl, by decide +kernel, by decide +kernel⟩
theorem ok_told (F : Fun K "_law_told" "_law_told" sTold f fd) (T : RTxt K mg C) (TE : ErrTxt K mg CI W fE) (xf : XfC K CI) (xm : PySem.W.exmOne K (.ref CI) (.ref CI) = some true) (SP : StatOf K C "parse" qP fP) (GP : FnOk P w K mg base (L2.CX P w) 4 fP fdP ["text"] (spParse K C CI)) (bP : L2.Binds K fdP ["text"] []) :
    FnOk P w K mg base CX0 5 f fd ["_law_value"] (spTold K) := by
  refine F.ok scT (fun vs H Q E h => ?_) (fun cdv A outer s H vs Q E hr h => ?_)
  · rcases h with ⟨t, rfl, _⟩ | ⟨v, rfl, _⟩ <;> rfl
  · refine ⟨_, pss_cons (ps_try_as (i := 2) (tb := fun W => tAsg (tCallS (spParse K C CI) (L2.WE W) (tCons (tVar 0) tNil)) (gName 1)) (ts := fun a cls d => tRet (tLst (tCons (tC (.str "no")) (tCons (tXf a cls d CI "given" (tVar 2)) tNil)))) (Wout := fun _ _ _ _ => False) rfl rfl scT.nd rfl rfl ⟨rfl, by decide, Or.inl TE.gC⟩ takes_none5
          (fun W pn xe tk _ => pss_one (ps_set (i := 1) scT.nd rfl (Or.inl rfl) (pe_static rfl T.mgC SP GP hr bP (fun σ => passAt tk σ) (pa_cons (pv 0) pa_nil))))
          (fun a oe cls d pn hz hf => pss_one (ps_ret (pe_lst (pa_cons pe_str (pa_cons (pe_xf xf TE.no hz hf (pv 2)) pa_nil))))))
      (pss_one (ps_ret (pe_lst (pa_cons pe_str (pa_cons (pe_fld (pv 1) rfl) (pa_cons (pe_fld (pv 1) rfl) pa_nil)))))), ?_⟩
    rcases h with ⟨t, rfl, ht, k0, k1⟩ | ⟨v, rfl, hn, k⟩
    · refine ⟨_, rfl, .inl ⟨t, rfl, ht, fun htd d H' s' hd hd' => ?_, fun r hrt q H' s' hq R => ?_⟩⟩
      · refine ⟨true, xm, fun _ a ha => ?_, fun q => Bool.noConfusion q⟩
        refine ⟨_, rfl, rfl, rfl, d, _, _, rfl, hd', rfl, by show 2 ≤ sizeLine; decide, fun q hq => ?_⟩
        exact k0 htd q _ (Same.new s' hq) (s'.free hq) upd_same
      · obtain ⟨dx, hx⟩ := R
        refine ⟨_, rfl, q, C, dx, _, .int r.1, rfl, hx, T.cl, T.nT, rfl, _, rfl, q, C, dx, _, .int r.2, rfl, hx, T.cl, T.nB, rfl, by show 3 ≤ sizeLine; decide, fun l hl => ?_⟩
        exact k1 r hrt l _ (Same.new s' hl) (s'.free hl) upd_same
    · refine ⟨_, rfl, .inr ⟨v, rfl, hn, fun d H' s' hd hd' => ?_⟩⟩
      refine ⟨true, xm, fun _ a ha => ?_, fun q => Bool.noConfusion q⟩
      refine ⟨_, rfl, rfl, rfl, d, _, _, rfl, hd', rfl, by show 2 ≤ sizeLine; decide, fun q hq => ?_⟩
      exact k q _ (Same.new s' hq) (s'.free hq) upd_same
theorem scRt : FnScope ["_law_text_here", "_law_due_here"] ["_law_text_here"] (defScope sRight) := ⟨rfl, rfl, rfl, by decide +kernel, rfl, by decide +kernel, by decide +kernel⟩
theorem ok_right {fD fT fS : Addr} {fdD fdT fdS : FuncData} (F : Fun K "_law_right" "_law_right" sRight f fd) (T : RTxt K mg C) (B : Blt mg) (SP : StatOf K C "parse" qP fP) (GP : FnOk P w K mg base (L2.CX P w) 4 fP fdP ["text"] (spParse K C CI)) (bP : L2.Binds K fdP ["text"] [])
    (GD : FnOk P w K mg base CX0 2 fD fdD ["_law_text_here"] spDue) (bD : L2.Binds K fdD ["_law_text_here"] []) (mD : mg "_law_due" = some (.ref fD)) (kD : PySem.W.keepIn K (.ref fD) = true)
    (GT : FnOk P w K mg base CX0 5 fT fdT ["_law_value"] (spTold K)) (bT : L2.Binds K fdT ["_law_value"] []) (mT : mg "_law_told" = some (.ref fT)) (kT : PySem.W.keepIn K (.ref fT) = true) (mS : Meth K C "__str__" fS) (GS : FnOk P w K mg base CX0 1 fS fdS ["self"] (spStr C)) (bS : L2.Binds K fdS ["self"] []) :
    FnOk P w K mg base CX0 6 f fd ["_law_text_here"] spRight := by
  refine F.ok scRt (fun vs H Q E h => ?_) (fun cdv A outer s H vs Q E hr h => ?_)
  · obtain ⟨t, rfl, _⟩ := h
    rfl
  · obtain ⟨t, rfl, ht, k⟩ := h
    have hu0 : _ < _ := hr.units0
    have r2 : Room 2 _ := hr.mono (by decide)
    have r3 : Room 3 _ := hr.mono (by decide)
    have r4 : Room 4 _ := hr.mono (by decide)
    refine ⟨_, pss_cons (ps_set (i := 1) scRt.nd rfl (Or.inl rfl) (pe_call GD r2 (by rfl) mD kD bD .nil pass0 (pa_cons (pv 0) pa_nil)))
      (pss_cons (ps_if (pt_cmpR op_isN (pv 1) pe_non (nomark _)) (pss_one (ps_ret (pe_cmpR (op_eqSame hu0) (pe_call GT hr (by rfl) mT kT bT .nil pass0 (pa_cons (pv 0) pa_nil)) (pe_lst (pa_cons pe_str (pa_cons (pv 0) pa_nil))) (nomark _)))) pss_nil)
      (pss_one (ps_ret (pe_and (pe_cmpR (op_eqSame hu0) (pe_call GT hr (by rfl) mT kT bT .nil pass0 (pa_cons (pv 0) pa_nil)) (pe_lst (pa_cons pe_str (pa_cons (pe_ix ix_tup (pv 1) pe_int (fun _ _ => rfl)) (pa_cons (pe_ix ix_tup (pv 1) pe_int (fun _ _ => rfl)) pa_nil)))) (nomark _))
        (pe_one (pe_cmpR op_eq (pe_callTy (call_strO mS GS r3 bS pass0) (by rfl) B.str (by decide +kernel) (pa_cons (pe_static rfl T.mgC SP GP r4 bP (fun σ => passLx σ) (pa_cons (pv 0) pa_nil)) pa_nil)) (pv 0) (nomark _))))))), ?_⟩
    refine ⟨_, rfl, t, rfl, ht, fun hd H1 s1 => ?_, fun p q hd T0 H1 s1 hT0 eT0 => ?_⟩
    · refine ⟨_, rfl, rfl, _, rfl, iteT ?_⟩
      have htd : told t = none := by rw [told_due]; exact hd
      refine ⟨_, rfl, .inl ⟨t, rfl, ht, fun _ l H2 s2 hl el => ?_, fun r hr' => by rw [htd] at hr'; cases hr'⟩⟩
      refine ⟨_, rfl, by show 2 ≤ sizeLine; decide, fun m hm => ?_⟩
      have hlm : l ≠ m := ne_of_none el hm
      refine ⟨l, m, [.str "no", vS t], rfl, rfl, SqL.of (by rw [upd_ne hlm]; exact el), SqL.of upd_same, ?_, ?_⟩
      · intro v hv
        simp at hv
        rcases hv with rfl | rfl <;> rfl
      · exact k _ (Same.new (s1.trans s2) hm)
    · refine ⟨_, rfl, rfl, _, rfl, iteF ?_⟩
      have htd : told t = some (p, q) := by rw [told_due]; exact hd
      refine ⟨_, rfl, .inl ⟨t, rfl, ht, (fun hn => by rw [htd] at hn; cases hn), fun r hr' l H2 s2 hl el => ?_⟩⟩
      rw [htd] at hr'
      cases hr'
      refine ⟨_, rfl, T0, _, _, _, rfl, rfl, SqT.of (s2 _ _ eT0), rfl, _, rfl, T0, _, _, _, rfl, rfl, SqT.of (s2 _ _ eT0), rfl, by show 3 ≤ sizeLine; decide, fun m hm => ?_⟩
      have hlm : l ≠ m := ne_of_none el hm
      refine ⟨l, m, [.str "ratio", .int p, .int q], rfl, rfl, SqL.of (by rw [upd_ne hlm]; exact el), SqL.of upd_same, ?_, _, rfl, iteT ?_⟩
      · intro v hv
        simp at hv
        rcases hv with rfl | rfl | rfl <;> rfl
      have s3 := Same.new (o := .lst [.str "ratio", .int p, .int q]) (s1.trans s2) hm
      refine ⟨_, rfl, .inl ⟨t, rfl, ht, (fun hn => by rw [htd] at hn; cases hn), fun r hr' o H4 s4 ho R => ?_⟩⟩
      rw [htd] at hr'
      cases hr'
      obtain ⟨he, b1, b2⟩ := told_str htd
      obtain ⟨dx, hx⟩ := id R
      refine ⟨o, dx, _, rfl, hx, o, (p, q), rfl, R, lt_1900 b1, lt_1900 b2, _, rfl, _, rfl, rfl, ?_⟩
      show Q (.bl (decide (V.str (S (strR (p, q))) = V.str (S t)))) H4
      rw [he, decide_eq_true rfl]
      exact k _ (s3.trans s4)
end
end QQ
namespace QQ
open PySem PySem.Spec PyProof.Rows L2 WE SX
def spText : Sp := fun vs H Q _ => ∃ (s : Addr), vs = [.ref s] ∧ StAt H s ∧ ∀ a H', a.length ≤ 100 → StAt H' s → SameBut s H H' → Q (vS a) H'
theorem joinL_len : ∀ ys : List (List Nat), (∀ y ∈ ys, y.length = 1) → (TL.joinL [] ys).length ≤ ys.length
  | [], _ => by simp [TL.joinL]
  | [p], h => by
    have := h p (by simp)
    show p.length ≤ 1
    omega
  | p :: q :: r, h => by
    have h1 := h p (by simp)
    have h2 := joinL_len (q :: r) (fun y hy => h y (List.mem_cons_of_mem _ hy))
    show (p ++ ([] ++ TL.joinL [] (q :: r))).length ≤ _
    rw [List.length_append, List.nil_append, List.length_cons]
    omega
theorem intL_small {p : Int} {k : Nat} (hk : 0 < k) (h : p.natAbs < 10 ^ k) : (intL p).length ≤ k + 1 := by
  have := TL.numL_len hk h
  unfold intL
  split
  · rw [List.length_cons]; omega
  · omega
section
variable {P : Program} {w : World} {K : PySem.W.Frag} {mg : Str → Option Value} {base : Heap} {f C CI W fE qP fP : Addr} {fd fdE fdP : FuncData} {tF : Tok}
abbrev nX : List Str := ["_law_draws_here", "_law_again", "_law_text_here", "_law_at", "_law_sign", "_law_some"]
theorem scX : FnScope nX ["_law_draws_here"] (defScope sText) := ⟨rfl, rfl, rfl, by decide +kernel, rfl, by decide +kernel, by decide +kernel⟩
theorem ok_text {fD fN fS : Addr} {fdD fdN fdS : FuncData} (F : Fun K "_law_text" "_law_text" sText f fd) (T : RTxt K mg C) (B : Blt mg) (GD : FnOk P w K mg base CX0 1 fD fdD ["_law_draws_here", "_law_upto"] spDraw) (bD : L2.Binds K fdD ["_law_draws_here", "_law_upto"] []) (mD : mg "_law_draw" = some (.ref fD)) (kD : PySem.W.keepIn K (.ref fD) = true)
    (MK : Mk K C fN) (GN : FnOk P w K mg base CX0 2 fN fdN ["self", "top", "bottom"] (spInit C)) (bN : L2.Binds K fdN ["self", "top", "bottom"] []) (mS : Meth K C "__str__" fS) (GS : FnOk P w K mg base CX0 1 fS fdS ["self"] (spStr C)) (bS : L2.Binds K fdS ["self"] []) :
    FnOk P w K mg base CX0 4 f fd ["_law_draws_here"] spText := by
  refine F.ok scX (fun vs H Q E h => ?_) (fun cdv A outer s H vs Q E hr h => ?_)
  · obtain ⟨t, rfl, _⟩ := h
    rfl
  · obtain ⟨st, rfl, ST, k⟩ := h
    have r1 : Room 1 _ := hr.mono (by decide)
    refine ⟨_, pss_cons (ps_if (pt_cmpR op_eq (pe_call GD r1 (by rfl) mD kD bD .nil pass0 (pa_cons (pv 0) (pa_cons pe_int pa_nil))) pe_int (nomark _)) (pss_one (ps_ret (pe_bm PySem.F.plainAttrs_str PySem.F.slot_str_join PySem.F.type_str_join mt_join pe_str (pa_cons (pe_lc (own := [("_law_again", 1)]) (g := gName 1) (tt := tYes) rfl scX.nd (pi_range1 (by rfl) B.range (pa_cons (pe_call GD r1 (by rfl) mD kD bD .nil pass0 (pa_cons (pv 0) (pa_cons pe_int pa_nil))) pa_nil)) (blkOk_by (own := [("_law_again", 1)]) (N := nX) (sc := defScope sText) (by decide +kernel))
          (fun _ _ _ _ _ => pg_name (i := 1) scX.nd rfl (Or.inl rfl)) (fun _ _ _ _ _ => pts_nil) (fun _ _ _ _ _ => pe_ix ix_str pe_str (pe_call GD r1 (by rfl) mD kD bD .nil pass0 (pa_cons (pv 0) (pa_cons pe_int pa_nil))) (fun _ _ => rfl))) pa_nil)))) pss_nil)
      (pss_cons (ps_set (i := 2) scX.nd rfl (Or.inl rfl) (pe_callTy (call_strO mS GS hr bS pass0) (by rfl) B.str (by decide +kernel) (pa_cons (pe_make MK GN hr (by rfl) T.mgC bN .nil pass0 (pa_cons (pe_op op_sub (pe_call GD r1 (by rfl) mD kD bD .nil pass0 (pa_cons (pv 0) (pa_cons pe_int pa_nil))) pe_int) (pa_cons (pe_op op_add pe_int (pe_call GD r1 (by rfl) mD kD bD .nil pass0 (pa_cons (pv 0) (pa_cons pe_int pa_nil)))) pa_nil))) pa_nil)))
      (pss_cons (ps_set (i := 3) scX.nd rfl (Or.inl rfl) (pe_call GD r1 (by rfl) mD kD bD .nil pass0 (pa_cons (pv 0) (pa_cons (pe_op op_add (pe_callB call_len_str (by rfl) B.len PySem.boot_len (pa_cons (pv 2) pa_nil)) pe_int) pa_nil))))
      (pss_cons (ps_set (i := 4) scX.nd rfl (Or.inl rfl) (pe_ix ix_str pe_str (pe_call GD r1 (by rfl) mD kD bD .nil pass0 (pa_cons (pv 0) (pa_cons pe_int pa_nil))) (fun _ _ => rfl)))
      (pss_cons (ps_set (i := 5) scX.nd rfl (Or.inl rfl) (pe_lst (pa_cons (pv 2) (pa_cons (pe_op op_add_str (pe_op op_add_str (pe_slice C8.sl_txt (pv 2) po_none (po_some (pv 3))) (pv 4)) (pe_slice C8.sl_txt (pv 2) (po_some (pe_op op_add (pv 3) pe_int)) po_none)) pa_nil))))
      (pss_cons (ps_set (i := 5) scX.nd rfl (Or.inl rfl) (pe_op op_cat (pv 5) (pe_lst (pa_cons (pe_op op_add_str (pe_slice C8.sl_txt (pv 2) po_none (po_some (pv 3))) (pe_slice C8.sl_txt (pv 2) (po_some (pe_op op_add (pv 3) pe_int)) po_none)) (pa_cons (pe_op op_add_str (pe_op op_add_str (pe_slice C8.sl_txt (pv 2) po_none (po_some (pv 3))) (pv 4)) (pe_slice C8.sl_txt (pv 2) (po_some (pv 3)) po_none)) pa_nil)))))
      (pss_one (ps_ret (pe_ix ix_list (pv 5) (pe_call GD r1 (by rfl) mD kD bD .nil pass0 (pa_cons (pv 0) (pa_cons pe_int pa_nil))) (fun _ _ => rfl))))))))), ?_⟩
    refine ⟨_, rfl, st, 3, rfl, ST, by decide, by decide, fun d1 H1 a1 b1 ST1 sb1 => ?_⟩
    refine ⟨rfl, _, rfl, ?_⟩
    refine ite2 (fun _ => ?_) (fun _ => ?_)
    · refine ⟨rfl, ?_⟩
      refine ⟨_, rfl, st, 6, rfl, ST1, by decide, by decide, fun d2 H2 a2 b2 ST2 sb2 => ⟨d2, rfl, by omega, by omega, fun D hD => ?_⟩⟩
      obtain ⟨i0, j0, hS0⟩ := id ST2
      have hDS : D ≠ st := fun z => by rw [z, hS0] at hD; cases hD
      refine lc_range (lo := 0) (n := d2.toNat) (fun i H' => ∃ ys : List (List Nat), StAt H' st ∧ SameBut st H2 H' ∧ H' D = some (.lst (ys.map vS)) ∧ ys.length = i ∧ ∀ y ∈ ys, y.length = 1) ⟨[], ST2.same (Same.put hD), .of (Same.put hD), upd_same, rfl, fun y hy => by simp at hy⟩ ?_ ?_
      · rintro i H3 hi ⟨ys, S3, sb3, eD, ln, h1⟩
        refine ⟨rfl, ?_⟩
        unfold tYes
        refine iteT ?_
        refine ⟨_, rfl, st, 8, rfl, S3, by decide, by decide, fun d3 H4 a3 b3 ST4 sb4 => ?_⟩
        obtain ⟨c, hc⟩ : ∃ c, atI (Str.ofString "0123/- 9").cps.toList d3 = some c := by
          have e : (Str.ofString "0123/- 9").cps.toList = [48, 49, 50, 51, 47, 45, 32, 57] := by decide +kernel
          rw [e, show d3 = ((d3.toNat : Nat) : Int) by omega]
          refine ⟨[48, 49, 50, 51, 47, 45, 32, 57][d3.toNat]'(by show d3.toNat < 8; omega), atI_nat ?_⟩
          rw [List.getElem?_eq_getElem]
        refine ⟨_, d3, c, rfl, rfl, by decide +kernel, hc, ?_⟩
        obtain ⟨i4, j4, hS4⟩ := id ST4
        have eD4 := sb4 _ _ eD hDS
        refine ⟨_, eD4, small1000 (by rw [List.length_map]; omega), ys ++ [[c]], ⟨i4, j4, by rw [upd_ne (Ne.symm hDS)]; exact hS4⟩, fun b o e nb => ?_, by rw [upd_same, List.map_append]; rfl, by simp [ln], fun y hy => ?_⟩
        · rw [upd_ne (ne_of_none e hD)]
          exact sb4 _ _ (sb3 _ _ e nb) nb
        · rcases List.mem_append.mp hy with hy | hy
          · exact h1 y hy
          · rw [List.mem_singleton.mp hy]; rfl
      · rintro H3 ⟨ys, S3, sb3, eD, ln, h1⟩
        have e0 : Str.ofString "" = S [] := by decide +kernel
        have em : ys.map vS = (ys.map S).map V.str := by rw [List.map_map]; rfl
        rw [em] at eD
        refine ⟨_, D, ys.map S, rfl, rfl, .inl (SqL.of eD), ?_, ?_⟩
        · rw [lens]
          have : (ys.map (·.length)).sum ≤ ys.length := by
            clear em eD ln
            induction ys with
            | nil => simp
            | cons y r ih =>
              have q1 := h1 y (by simp)
              have q2 := ih (fun z hz => h1 z (List.mem_cons_of_mem _ hz))
              simp only [List.map_cons, List.sum_cons, List.length_cons]
              omega
          rw [List.length_map, e0, S_len]
          show _ + _ * 0 ≤ _
          omega
        · rw [e0, join_S]
          have := joinL_len ys h1
          exact k _ _ (by omega) S3 (sb1.trans (sb2.trans sb3))
    · refine ⟨_, rfl, st, 400, rfl, ST1, by decide, by decide, fun d2 H2 a2 b2 ST2 sb2 => ⟨_, _, rfl, rfl, ?_⟩⟩
      refine ⟨_, rfl, st, 40, rfl, ST2, by decide, by decide, fun d3 H3 a3 b3 ST3 sb3 => ⟨_, _, rfl, rfl, fun o1 x1 ho1 hx1 nx1 => ?_⟩⟩
      have sB1 : Same H3 (upd (upd H3 x1 (.own o1)) o1 (.ins C x1 [])) := Same.new (Same.put hx1) (by rw [upd_ne (Ne.symm nx1)]; exact ho1)
      have q40 : (1 + d3).natAbs ≤ 40 := by omega
      have q200 : (d2 - 200).natAbs ≤ 200 := by omega
      refine ⟨o1, x1, d2 - 200, 1 + d3, rfl, upd_same, by omega, Nat.lt_of_le_of_lt q40 (by decide), fun H4 kp4 e4 => ⟨rfl, ?_⟩⟩
      have s4 : Same H3 H4 := fun c o e => kp4 c o (sB1 _ _ e) (ne_of_none e ho1)
      obtain ⟨l1, l2⟩ := low_le (d2 - 200) (1 + d3)
      have big : ∀ n : Nat, n ≤ 200 → n < 2 ^ 1900 := fun n h => lt_1900 (Nat.lt_of_le_of_lt h (by decide))
      refine ⟨o1, x1, _, rfl, e4, o1, lowP (d2 - 200) (1 + d3), rfl, ⟨x1, e4⟩, big _ (by omega), big _ (by omega), _, rfl, ?_⟩
      have tl : (strR (lowP (d2 - 200) (1 + d3))).length ≤ 8 := by
        have z1 := intL_small (p := (lowP (d2 - 200) (1 + d3)).1) (k := 3) (by decide) (by show _ < 1000; omega)
        have z2 := intL_small (p := (lowP (d2 - 200) (1 + d3)).2) (k := 2) (by decide) (by show _ < 100; omega)
        unfold strR
        split
        · omega
        · rw [List.length_append, List.length_cons]; omega
      generalize strR (lowP (d2 - 200) (1 + d3)) = tx at tl ⊢
      have ST4 : StAt H4 st := ST3.same s4
      have lx : (S tx).length ≤ sizeLine := by rw [S_len, sizeLine_eq]; omega
      refine ⟨_, rfl, _, rfl, S tx, rfl, lx, _, _, rfl, rfl, st, _, rfl, ST4, by omega, Int.lt_of_le_of_lt (b := 9) (by rw [S_len]; omega) (by decide), fun d4 H5 a4 b4 ST5 sb5 => ?_⟩
      refine ⟨_, rfl, st, 8, rfl, ST5, by decide, by decide, fun d5 H6 a5 b5 ST6 sb6 => ?_⟩
      obtain ⟨c, hc⟩ : ∃ c, atI (Str.ofString "012/- 5+").cps.toList d5 = some c := by
        have e : (Str.ofString "012/- 5+").cps.toList = [48, 49, 50, 47, 45, 32, 53, 43] := by decide +kernel
        rw [e, show d5 = ((d5.toNat : Nat) : Int) by omega]
        refine ⟨[48, 49, 50, 47, 45, 32, 53, 43][d5.toNat]'(by show d5.toNat < 8; omega), atI_nat ?_⟩
        rw [List.getElem?_eq_getElem]
      refine ⟨_, d5, c, rfl, rfl, by decide +kernel, hc, ?_⟩
      have z1 : Txt.slice (S tx) none (some d4) = S (tx.take d4.toNat) := slice_to a4
      have z2 : Txt.slice (S tx) (some (d4 + 1)) none = S (tx.drop (d4 + 1).toNat) := slice_from (by omega)
      have z3 : Txt.slice (S tx) (some d4) none = S (tx.drop d4.toNat) := slice_from a4
      have n1 : (tx.take d4.toNat).length ≤ 8 := by rw [List.length_take]; omega
      have n2 : (tx.drop (d4 + 1).toNat).length ≤ 8 := by rw [List.length_drop]; omega
      have n3 : (tx.drop d4.toNat).length ≤ 8 := by rw [List.length_drop]; omega
      have c1 : (⟨#[c]⟩ : Str) = S [c] := rfl
      refine ⟨_, rfl, _, rfl, _, rfl, d4, rfl, S tx, rfl, lx, _, rfl, _, _, rfl, rfl, ?_, _, rfl, _, rfl, _, _, rfl, rfl, _, rfl, S tx, rfl, lx, _, _, rfl, rfl, ?_, by show 2 ≤ sizeLine; decide, fun L hL => ?_⟩
      · rw [z1, S_len, c1, S_len, sizeLine_eq]; show _ + 1 ≤ _; omega
      · rw [z1, z2, c1, S_cat, S_len, S_len, sizeLine_eq, List.length_append]; show _ + 1 + _ ≤ _; omega
      rw [z1, z2, c1, S_cat (tx.take d4.toNat) [c], S_cat (tx.take d4.toNat ++ [c]) (tx.drop (d4 + 1).toNat)]
      have hLst : ∀ H', Same (upd H6 L (.lst [vS tx, vS (tx.take d4.toNat ++ [c] ++ tx.drop (d4 + 1).toNat)])) H' → H' L = some (.lst [vS tx, vS (tx.take d4.toNat ++ [c] ++ tx.drop (d4 + 1).toNat)]) := fun H' q => q _ _ upd_same
      refine ⟨_, rfl, _, rfl, _, rfl, d4, rfl, S tx, rfl, lx, _, rfl, _, rfl, _, _, rfl, rfl, _, rfl, S tx, rfl, lx, _, _, rfl, rfl, ?_, _, rfl, _, rfl, d4, rfl, S tx, rfl, lx, _, rfl, _, _, rfl, rfl, ?_, _, rfl, _, rfl, d4, rfl, S tx, rfl, lx, _, _, rfl, rfl, ?_, by show 2 ≤ sizeLine; decide, fun M hM => ?_⟩
      · rw [z1, z2, S_len, S_len, sizeLine_eq]; omega
      · rw [z1, S_len, S_len, sizeLine_eq, List.length_singleton]; omega
      · rw [z1, z3, S_cat (tx.take d4.toNat) [c], S_len, S_len, sizeLine_eq, List.length_append, List.length_singleton]; omega
      rw [z1, z2, z3, S_cat (tx.take d4.toNat) [c], S_cat (tx.take d4.toNat ++ [c]) (tx.drop d4.toNat), S_cat (tx.take d4.toNat) (tx.drop (d4 + 1).toNat)]
      have sM := Same.put (o := .lst [vS (tx.take d4.toNat ++ tx.drop (d4 + 1).toNat), vS (tx.take d4.toNat ++ [c] ++ tx.drop d4.toNat)]) hM
      refine ⟨L, M, _, _, rfl, rfl, hLst _ sM, upd_same, by show 2 + 2 ≤ sizeLine; decide, fun N hN => ?_⟩
      generalize eH9 : upd (upd (upd H6 L _) M _) N _ = H9
      have s9 : Same H6 H9 := by rw [← eH9]; exact Same.new (Same.new (Same.put hL) hM) hN
      have ST9 : StAt H9 st := ST6.same s9
      have eN : H9 N = some (.lst ([vS tx, vS (tx.take d4.toNat ++ [c] ++ tx.drop (d4 + 1).toNat)] ++ [vS (tx.take d4.toNat ++ tx.drop (d4 + 1).toNat), vS (tx.take d4.toNat ++ [c] ++ tx.drop d4.toNat)])) := by rw [← eH9]; exact upd_same
      have hNS : N ≠ st := by
        obtain ⟨i, j, h⟩ := ST6
        have := Same.new (o := .lst [vS (tx.take d4.toNat ++ tx.drop (d4 + 1).toNat), vS (tx.take d4.toNat ++ [c] ++ tx.drop d4.toNat)]) (Same.put (o := .lst [vS tx, vS (tx.take d4.toNat ++ [c] ++ tx.drop (d4 + 1).toNat)]) hL) hM
        exact fun z => by rw [z, this _ _ h] at hN; cases hN
      refine ⟨_, rfl, _, rfl, st, 4, rfl, ST9, by decide, by decide, fun d6 H10 a6 b6 ST10 sb10 => ?_⟩
      have sbF : SameBut st H H10 := sb1.trans (sb2.trans (sb3.trans ((SameBut.of s4).trans (sb5.trans (sb6.trans ((SameBut.of s9).trans sb10))))))
      have eN' := sb10 _ _ eN hNS
      have hd6 : d6 = 0 ∨ d6 = 1 ∨ d6 = 2 ∨ d6 = 3 := by omega
      rcases hd6 with rfl | rfl | rfl | rfl
      · exact ⟨N, _, _, vS tx, rfl, rfl, SqL.of eN', atI_nat (j := 0) rfl, k _ _ (by omega) ST10 sbF⟩
      · exact ⟨N, _, _, vS _, rfl, rfl, SqL.of eN', atI_nat (j := 1) rfl, k _ _ (by rw [List.length_append, List.length_append, List.length_singleton]; omega) ST10 sbF⟩
      · exact ⟨N, _, _, vS _, rfl, rfl, SqL.of eN', atI_nat (j := 2) rfl, k _ _ (by rw [List.length_append]; omega) ST10 sbF⟩
      · exact ⟨N, _, _, vS _, rfl, rfl, SqL.of eN', atI_nat (j := 3) rfl, k _ _ (by rw [List.length_append, List.length_append, List.length_singleton]; omega) ST10 sbF⟩
end
end QQ
namespace QQ
open PySem PySem.Spec PyProof.Rows L2 WE SX
section
variable {X : Cx}
theorem op_mul_str : OpR X (binaryOp .Mult) (fun x y H Q => ∃ (i : Str) (n : Int), x = .str i ∧ y = .int n ∧ MulOk i n ∧ Q (.str (Txt.mul i n)) H) := by
  intro pins s σ H x y v u Q I rx ry h
  obtain ⟨i, n, rfl, rfl, hz, q⟩ := h
  obtain ⟨t, rfl⟩ := rx
  obtain ⟨t', rfl⟩ := ry
  exact SB.mul hz fun t' tk => ⟨.str _, H, I.tok _, ⟨_, rfl⟩, q⟩
end
def spLaw (K : PySem.W.Frag) : Sp := fun vs H Q _ => ∃ (a : Addr) (zs : List Int), vs = [.ref a] ∧ SqL K H a (zs.map V.int) ∧ ∀ H', Q (.bl true) H'
/-- a def of the module: where it stands, its promise -/
structure FnAt (P : Program) (w : World) (K : PySem.W.Frag) (mg : Str → Option Value) (base : Heap) (k : Nat) (x : Str) (ps : List Str) (sp : Sp) : Prop where
  ex : ∃ f fd, mg x = some (.ref f) ∧ PySem.W.keepIn K (.ref f) = true ∧ FnOk P w K mg base CX0 k f fd ps sp ∧ L2.Binds K fd ps []
/-- an instance is no text -/
structure RIns (K : PySem.W.Frag) (C : Addr) : Prop where
  ha : PySem.W.findIn K (.ref C) "__class__" = some (some (.builtin "object.__class__"))
  hn : PySem.W.specialIn K (.builtin "object.__class__") "__get__" = some (some (.builtin "getset_descriptor.__get__"))
  htk : PySem.W.takesIn K (.builtin "object.__class__") = some true
  hm : PySem.W.mroIn K C (.type "object") = some true
  noS : PySem.W.kitOne K (.ref C) (.type "str") = some false
abbrev ts1 : List Str := ["", "-", "/", "1/", "/2", "0", "-0", "00", "1/1", "2/4", "3/2", "-3/2", "3/-2"]
abbrev ts2 : List Str := ["+1", " 1", "1 ", "0/3", "1\n", "1/0"]
abbrev lgS : Str := Str.ofString "1" ++ Txt.mul (Str.ofString "0") 59
abbrev ts3 : List Str := [lgS, lgS ++ Str.ofString "0", Str.ofString "-" ++ lgS, Str.ofString "1/" ++ lgS, Str.ofString "1/" ++ lgS ++ Str.ofString "0", lgS ++ Str.ofString "/7", "7/2/3", "1/0", "1\n"]
theorem mulOk59 : MulOk (Str.ofString "0") 59 := ⟨by decide, fun _ _ => by decide +kernel, fun _ _ => by decide +kernel⟩
theorem vS_of (x : Str) : V.str x = vS x.cps.toList := by unfold vS; rw [S_tl]
theorem len_of (x : Str) : x.cps.toList.length = x.length := by simp [Str.length]
theorem strs_at {ts : List Str} {i : Nat} {v : V} (h : (ts.map V.str)[i]? = some v) (hl : ∀ x ∈ ts, x.length ≤ 500) : ∃ t : List Nat, v = vS t ∧ t.length ≤ 500 := by
  rw [List.getElem?_map] at h
  cases e : ts[i]? with
  | none => rw [e] at h; cases h
  | some x =>
    rw [e] at h
    cases h
    exact ⟨x.cps.toList, vS_of x, by rw [len_of]; exact hl x (List.mem_of_getElem? e)⟩
section
variable {P : Program} {w : World} {K : PySem.W.Frag} {mg : Str → Option Value} {base : Heap} {f C CI W fE qP fP : Addr} {fd fdE fdP : FuncData} {tF : Tok}
abbrev nL : List Str := ["_law_script", "_law_value", "_law_long", "_law_some", "_law_text_here", "_law_k", "_law_draws_here"]
theorem scW : FnScope nL ["_law_script"] (defScope sLaw) := ⟨rfl, rfl, rfl, by decide +kernel, rfl, by decide +kernel, by decide +kernel⟩
theorem ok_law {fN : Addr} {fdN : FuncData} (F : Fun K "law" "law" sLaw f fd) (T : RTxt K mg C) (RI : RIns K C) (B : Blt mg) (MK : Mk K C fN) (GN : FnOk P w K mg base CX0 2 fN fdN ["self", "top", "bottom"] (spInit C)) (bN : L2.Binds K fdN ["self", "top", "bottom"] [])
    (g1 : FnAt P w K mg base 5 "_law_told" ["_law_value"] (spTold K)) (g2 : FnAt P w K mg base 6 "_law_right" ["_law_text_here"] spRight) (g3 : FnAt P w K mg base 1 "_law_draws" ["_law_script", "_law_k"] (spDraws K)) (g4 : FnAt P w K mg base 4 "_law_text" ["_law_draws_here"] spText) :
    FnOk P w K mg base CX0 7 f fd ["_law_script"] (spLaw K) := by
  obtain ⟨f1, fd1, mg1, kp1, G1, b1⟩ := g1.ex
  obtain ⟨f2, fd2, mg2, kp2, G2, b2⟩ := g2.ex
  obtain ⟨f3, fd3, mg3, kp3, G3, b3⟩ := g3.ex
  obtain ⟨f4, fd4, mg4, kp4, G4, b4⟩ := g4.ex
  refine F.ok scW (fun vs H Q E h => ?_) (fun cdv A outer s H vs Q E hr h => ?_)
  · obtain ⟨a, zs, rfl, _⟩ := h
    rfl
  · obtain ⟨a, zs, rfl, hS, k⟩ := h
    have hu0 : _ < _ := hr.units0
    have r1 : Room 1 _ := hr.mono (by decide)
    have r3 : Room 3 _ := hr.mono (by decide)
    have r4 : Room 4 _ := hr.mono (by decide)
    have r5 : Room 5 _ := hr.mono (by decide)
    refine ⟨_, pss_cons (ps_for PassesOwn.never rfl (pi_list (pe_lst (pa_cons pe_non (pa_cons pe_int (pa_cons pe_bl (pa_cons (pe_lst (pa_cons pe_str pa_nil)) (pa_cons (pe_tup (pa_cons pe_str pa_nil)) (pa_cons pe_dnewK (pa_cons (pe_make MK GN r3 (by rfl) T.mgC bN .nil pass0 (pa_cons pe_int (pa_cons pe_int pa_nil))) pa_nil))))))))) (pg_name (i := 1) scW.nd rfl (Or.inl rfl))
        (pss_one (ps_if (pt_cmpR (op_neSame hu0) (pe_call G1 r5 (by rfl) mg1 kp1 b1 .nil pass0 (pa_cons (pv 1) pa_nil)) (pe_lst (pa_cons pe_str (pa_cons (pv 1) pa_nil))) (nomark _)) (pss_one (ps_ret pe_bl)) pss_nil)))
      (pss_cons (ps_set (i := 2) scW.nd rfl (Or.inl rfl) (pe_op op_add_str pe_str (pe_op op_mul_str pe_str pe_int)))
      (pss_cons (ps_set (i := 3) scW.nd rfl (Or.inl rfl) (pe_lst (pa_cons pe_str (pa_cons pe_str (pa_cons pe_str (pa_cons pe_str (pa_cons pe_str (pa_cons pe_str (pa_cons pe_str (pa_cons pe_str (pa_cons pe_str (pa_cons pe_str (pa_cons pe_str (pa_cons pe_str (pa_cons pe_str pa_nil)))))))))))))))
      (pss_cons (ps_for PassesOwn.never rfl (pi_list (pe_op op_cat (pv 3) (pe_lst (pa_cons pe_str (pa_cons pe_str (pa_cons pe_str (pa_cons pe_str (pa_cons pe_str (pa_cons pe_str pa_nil))))))))) (pg_name (i := 4) scW.nd rfl (Or.inl rfl))
        (pss_one (ps_if (pt_not (pt_val (pe_call G2 hr (by rfl) mg2 kp2 b2 .nil pass0 (pa_cons (pv 4) pa_nil)))) (pss_one (ps_ret pe_bl)) pss_nil)))
      (pss_cons (ps_for PassesOwn.never rfl (pi_list (pe_lst (pa_cons (pv 2) (pa_cons (pe_op op_add_str (pv 2) pe_str) (pa_cons (pe_op op_add_str pe_str (pv 2)) (pa_cons (pe_op op_add_str pe_str (pv 2)) (pa_cons (pe_op op_add_str (pe_op op_add_str pe_str (pv 2)) pe_str) (pa_cons (pe_op op_add_str (pv 2) pe_str) (pa_cons pe_str (pa_cons pe_str (pa_cons pe_str pa_nil))))))))))) (pg_name (i := 4) scW.nd rfl (Or.inl rfl))
        (pss_one (ps_if (pt_not (pt_val (pe_call G2 hr (by rfl) mg2 kp2 b2 .nil pass0 (pa_cons (pv 4) pa_nil)))) (pss_one (ps_ret pe_bl)) pss_nil)))
      (pss_cons (ps_for PassesOwn.never rfl (pi_range1 (by rfl) B.range (pa_cons (pe_callB (call_max2 rfl) (by rfl) B.max (by decide +kernel) (pa_cons pe_int (pa_cons (pe_callB (call_min2 rfl) (by rfl) B.min (by decide +kernel) (pa_cons pe_int (pa_cons (pe_callB call_len_seq (by rfl) B.len PySem.boot_len (pa_cons (pv 0) pa_nil)) pa_nil))) pa_nil))) pa_nil)) (pg_name (i := 5) scW.nd rfl (Or.inl rfl))
        (pss_cons (ps_set (i := 6) scW.nd rfl (Or.inl rfl) (pe_call G3 r1 (by rfl) mg3 kp3 b3 .nil pass0 (pa_cons (pv 0) (pa_cons (pv 5) pa_nil))))
        (pss_one (ps_if (PW.pt (pw_or (pt_not (pt_val (pe_call G2 hr (by rfl) mg2 kp2 b2 .nil pass0 (pa_cons (pe_call G4 r4 (by rfl) mg4 kp4 b4 .nil pass0 (pa_cons (pv 6) pa_nil)) pa_nil)))) (pw_or1 (pt_not (pt_val (pe_call G2 hr (by rfl) mg2 kp2 b2 .nil pass0 (pa_cons (pe_call G4 r4 (by rfl) mg4 kp4 b4 .nil pass0 (pa_cons (pv 6) pa_nil)) pa_nil))))))) (pss_one (ps_ret pe_bl)) pss_nil))))
      (pss_one (ps_ret pe_bl))))))), ?_⟩
    refine ⟨by show 1 ≤ sizeLine; decide, fun l1 hl1 => ?_⟩
    refine ⟨by show 1 ≤ sizeLine; decide, fun t1 ht1 => ?_⟩
    intro d1 hd1 o1 x1 ho1 hx1 nx1
    have sc : Same H (upd (upd (upd H l1 (.lst [.str "1"])) t1 (.tup [.str "1"])) d1 (.dK [])) := Same.new (Same.new (Same.put hl1) ht1) hd1
    generalize eHc : upd (upd (upd H l1 (.lst [.str "1"])) t1 (.tup [.str "1"])) d1 (.dK []) = Hc at sc ho1 hx1 ⊢
    have el1 : Hc l1 = some (.lst [.str "1"]) := by rw [← eHc]; exact Same.put hd1 _ _ (Same.put ht1 _ _ upd_same)
    have et1 : Hc t1 = some (.tup [.str "1"]) := by rw [← eHc]; exact Same.put hd1 _ _ upd_same
    have ed1 : Hc d1 = some (.dK []) := by rw [← eHc]; exact upd_same
    have sB1 : Same Hc (upd (upd Hc x1 (.own o1)) o1 (.ins C x1 [])) := Same.new (Same.put hx1) (by rw [upd_ne (Ne.symm nx1)]; exact ho1)
    refine ⟨o1, x1, 1, 2, rfl, upd_same, by decide, by decide, fun H4 kp4 e4 => ⟨rfl, ?_⟩⟩
    have s4 : Same Hc H4 := fun c o e => kp4 c o (sB1 _ _ e) (ne_of_none e ho1)
    refine ⟨by show 7 ≤ sizeLine; decide, fun Ls hLs => ?_⟩
    generalize eH5 : upd H4 Ls _ = H5
    have s5 : Same H4 H5 := by rw [← eH5]; exact Same.put hLs
    have eL5 : H5 Ls = some (.lst [.non, .int 5, .bl true, .ref l1, .ref t1, .ref d1, .ref o1]) := by rw [← eH5]; exact upd_same
    have s45 := s4.trans s5
    refine ⟨Ls, rfl, ⟨_, SqL.of eL5⟩, ?_⟩
    have nt : ∀ H', Same H5 H' → ∀ v ∈ [V.non, .int 5, .bl true, .ref l1, .ref t1, .ref d1, .ref o1], NoTxt K H' v ∧ plainV v = true := fun H' q v hv => by
      simp only [List.mem_cons, List.not_mem_nil, or_false] at hv
      rcases hv with rfl | rfl | rfl | rfl | rfl | rfl | rfl
      · exact ⟨⟨_, .base .non, by kernel_rfl⟩, rfl⟩
      · exact ⟨⟨_, .base (.int 5), by kernel_rfl⟩, rfl⟩
      · exact ⟨⟨_, .base (.bl true), by kernel_rfl⟩, rfl⟩
      · exact ⟨⟨_, .base (.lst (q _ _ (s45 _ _ el1))), by kernel_rfl⟩, rfl⟩
      · exact ⟨⟨_, .base (.tup (q _ _ (s45 _ _ et1))), by kernel_rfl⟩, rfl⟩
      · exact ⟨⟨_, .base (.dK (q _ _ (s45 _ _ ed1))), by kernel_rfl⟩, rfl⟩
      · exact ⟨⟨_, .base (.ins (q _ _ (s5 _ _ e4)) T.cl RI.ha RI.hn RI.htk RI.hm), RI.noS⟩, rfl⟩
    refine for_list (K := K) (a := Ls) (xs := [V.non, .int 5, .bl true, .ref l1, .ref t1, .ref d1, .ref o1]) (fun i σ' H' => (∃ v1, σ' = [some (.ref a), v1, none, none, none, none, none]) ∧ Same H5 H') ⟨⟨none, rfl⟩, Same.refl _⟩ (fun i σ' H' _ ⟨_, q⟩ => SqL.of (q _ _ eL5)) ?_ ?_
    · rintro i v _ H6 hv ⟨⟨v1, rfl⟩, q6⟩
      obtain ⟨n1, n2⟩ := nt H6 q6 v (List.mem_of_getElem? hv)
      refine ⟨_, rfl, .inr ⟨v, rfl, n1, fun l H7 s7 hl el => ?_⟩⟩
      refine ⟨_, rfl, by show 2 ≤ sizeLine; decide, fun m hm => ?_⟩
      have hlm : l ≠ m := ne_of_none el hm
      refine ⟨l, m, [.str "no", v], rfl, rfl, SqL.of (by rw [upd_ne hlm]; exact el), SqL.of upd_same, fun u hu => ?_, _, rfl, iteF ?_⟩
      · simp only [List.mem_cons, List.not_mem_nil, or_false] at hu
        rcases hu with rfl | rfl
        · rfl
        · exact n2
      · exact ⟨⟨_, rfl⟩, q6.trans (Same.new s7 hm)⟩
    rintro _ H6 ⟨⟨v1, rfl⟩, q6⟩
    have s06 : Same H H6 := (sc.trans s45).trans q6
    -- long, some
    refine ⟨_, _, rfl, rfl, mulOk59, _, _, rfl, rfl, by decide +kernel, ?_⟩
    refine ⟨by show 13 ≤ sizeLine; decide, fun Sm hSm => ?_⟩
    have h12 : ∀ x ∈ ts1 ++ ts2, x.length ≤ 500 := by decide +kernel
    have h3 : ∀ x ∈ ts3, x.length ≤ 500 := by decide +kernel
    have eSm : (upd H6 Sm (.lst (ts1.map V.str))) Sm = some (.lst (ts1.map V.str)) := upd_same
    refine ⟨_, rfl, by show 6 ≤ sizeLine; decide, fun M hM => ⟨Sm, M, ts1.map V.str, ts2.map V.str, rfl, rfl, Same.put hM _ _ eSm, upd_same, by show 13 + 6 ≤ sizeLine; decide, fun N hN => ?_⟩⟩
    generalize eH7 : upd (upd (upd H6 Sm _) M _) N _ = H7
    have s67 : Same H6 H7 := by rw [← eH7]; exact Same.new (Same.new (Same.put hSm) hM) hN
    have eN : H7 N = some (.lst ((ts1 ++ ts2).map V.str)) := by rw [← eH7]; exact upd_same
    refine ⟨N, rfl, ⟨_, SqL.of eN⟩, ?_⟩
    refine for_list (K := K) (a := N) (xs := (ts1 ++ ts2).map V.str) (fun i σ' H' => (∃ v4, σ' = [some (.ref a), v1, some (.str lgS), some (.ref Sm), v4, none, none]) ∧ Same H7 H') ⟨⟨none, rfl⟩, Same.refl _⟩ (fun i σ' H' _ ⟨_, q⟩ => SqL.of (q _ _ eN)) ?_ ?_
    · rintro i v _ H8 hv ⟨⟨v4, rfl⟩, q8⟩
      obtain ⟨t, rfl, ht⟩ := strs_at hv h12
      exact ⟨_, rfl, t, rfl, ht, fun H9 s9 => ⟨_, rfl, iteF ⟨⟨_, rfl⟩, q8.trans s9⟩⟩⟩
    rintro _ H8 ⟨⟨v4, rfl⟩, q8⟩
    refine ⟨_, rfl, _, rfl, _, _, rfl, rfl, by decide +kernel, _, rfl, _, _, rfl, rfl, by decide +kernel, _, rfl, _, _, rfl, rfl, by decide +kernel, _, rfl, _, _, rfl, rfl, by decide +kernel, _, _, rfl, rfl, by decide +kernel, _, rfl, _, _, rfl, rfl, by decide +kernel, by show 9 ≤ sizeLine; decide, fun N2 hN2 => ?_⟩
    generalize eH9 : upd H8 N2 _ = H9
    have s89 : Same H8 H9 := by rw [← eH9]; exact Same.put hN2
    have eN2 : H9 N2 = some (.lst (ts3.map V.str)) := by rw [← eH9]; exact upd_same
    refine ⟨N2, rfl, ⟨_, SqL.of eN2⟩, ?_⟩
    refine for_list (K := K) (a := N2) (xs := ts3.map V.str) (fun i σ' H' => (∃ v4, σ' = [some (.ref a), v1, some (.str lgS), some (.ref Sm), v4, none, none]) ∧ Same H9 H') ⟨⟨_, rfl⟩, Same.refl _⟩ (fun i σ' H' _ ⟨_, q⟩ => SqL.of (q _ _ eN2)) ?_ ?_
    · rintro i v _ HA hv ⟨⟨v4, rfl⟩, qA⟩
      obtain ⟨t, rfl, ht⟩ := strs_at hv h3
      exact ⟨_, rfl, t, rfl, ht, fun H9 s9 => ⟨_, rfl, iteF ⟨⟨_, rfl⟩, qA.trans s9⟩⟩⟩
    rintro _ HA ⟨⟨v5, rfl⟩, qA⟩
    have s0A : Same H HA := s06.trans (s67.trans (q8.trans (s89.trans qA)))
    have hSA := SqL.same hS s0A
    refine ⟨_, rfl, a, _, rfl, .inl hSA, _, _, rfl, _, _, rfl, ?_⟩
    have hb : ∀ l : Int, 0 ≤ (if (if l < 40 then l else 40) > 1 then (if l < 40 then l else 40) else 1) ∧ (if (if l < 40 then l else 40) > 1 then (if l < 40 then l else 40) else 1) ≤ (40 : Int) := fun l => by
      split <;> split at * <;> omega
    obtain ⟨hb0, hb1⟩ := hb (((zs.map V.int).length : Nat) : Int)
    generalize (if (if (((zs.map V.int).length : Nat) : Int) < 40 then (((zs.map V.int).length : Nat) : Int) else 40) > 1 then (if (((zs.map V.int).length : Nat) : Int) < 40 then (((zs.map V.int).length : Nat) : Int) else 40) else 1) = n at hb0 hb1 ⊢
    refine ⟨n, rfl, by omega, by omega, ?_⟩
    refine for_range (lo := 0) (n := n.toNat) (fun i σ' H' => (∃ w5 w6, σ' = [some (.ref a), v1, some (.str lgS), some (.ref Sm), v5, w5, w6]) ∧ Same HA H') ⟨⟨none, none, rfl⟩, Same.refl _⟩ ?_ ?_
    · rintro i _ HB hi ⟨⟨w5, w6, rfl⟩, qB⟩
      refine ⟨_, rfl, _, rfl, a, zs, _, rfl, SqL.same hSA qB, by omega, by omega, fun st HC sC hst ST => ?_⟩
      have fix : ∀ {X Y : Hp}, Same HB X → SameBut st X Y → Same HB Y := fun q b c o e => b c o (q c o e) (ne_of_none e hst)
      refine ⟨_, rfl, st, rfl, ST, fun x HD hx ST2 sb2 => ?_⟩
      refine ⟨x, rfl, by omega, fun HE sE => ⟨_, rfl, iteF ?_⟩⟩
      refine ⟨_, rfl, st, rfl, ST2.same sE, fun y HF hy ST3 sb3 => ?_⟩
      refine ⟨y, rfl, by omega, fun HG sG => ⟨_, rfl, iteF ?_⟩⟩
      exact ⟨⟨_, _, rfl⟩, qB.trans ((fix ((fix sC sb2).trans sE) sb3).trans sG)⟩
    · rintro _ HB ⟨⟨w5, w6, rfl⟩, qB⟩
      exact k _
end
end QQ
namespace QQ
open PySem PySem.Spec PyProof.Rows L2 WE SX
theorem kit_str {K : PySem.W.Frag} {C : Addr} (h : PySem.W.subIn K (.ref C) (.type "str") = some false) : PySem.W.kitOne K (.ref C) (.type "str") = some false := by
  unfold PySem.W.kitOne
  rw [if_neg (by simp)]
  show (if PySem.W.kitMeta "str" = true then PySem.W.subIn K (.ref C) (.type "str") else none) = some false
  rw [if_pos (by kernel_rfl)]
  exact h
theorem all_mk {l : PySem.W.OpenLaw} {w : World} {K : PySem.W.Frag} {h : Heap} {mg : Str → Option Value} {fa C CI W Td f1 f2 f3 f4 f5 f6 f7 f8 f9 f10 f11 f12 f13 f14 f15 f16 f17 p3 : Addr} {rs3 : List Value} (X : K.In h) (G : h.Ns mainGlobals mg) (hfa : mg "law" = some (.ref fa))
    {nm q : Str} {N : Addr} {bs : List Value} {sn : List Str} {sub : List Value} {ab : Bool} {col : Option Bool} {dd : Option Addr} {m0 m1 m2 m3 m5 : Option Value} {ocT : Value} {odT : Option Addr} {tT tF : Tok} {nT : Nat} {slT : Array (Option Value)}
    {od1 an1 : Option Addr} {sl1 : Array (Option Value)} {oc1 kV1 dc1 pm1 cd1 ct1 : Value}
    {od2 an2 : Option Addr} {sl2 : Array (Option Value)} {oc2 kV2 dc2 pm2 cd2 ct2 : Value}
    {od3 an3 : Option Addr} {sl3 : Array (Option Value)} {oc3 kV3 dc3 pm3 cd3 ct3 : Value}
    {od4 an4 : Option Addr} {sl4 : Array (Option Value)} {oc4 kV4 dc4 pm4 cd4 ct4 : Value}
    {od5 an5 : Option Addr} {sl5 : Array (Option Value)} {oc5 kV5 dc5 pm5 cd5 ct5 : Value}
    {od6 an6 : Option Addr} {sl6 : Array (Option Value)} {oc6 kV6 dc6 pm6 cd6 ct6 : Value}
    {od7 an7 : Option Addr} {sl7 : Array (Option Value)} {oc7 kV7 dc7 pm7 cd7 ct7 : Value}
    {od8 an8 : Option Addr} {sl8 : Array (Option Value)} {oc8 kV8 dc8 pm8 cd8 ct8 : Value}
    {od9 an9 : Option Addr} {sl9 : Array (Option Value)} {oc9 kV9 dc9 pm9 cd9 ct9 : Value}
    {od10 an10 : Option Addr} {sl10 : Array (Option Value)} {oc10 kV10 dc10 pm10 cd10 ct10 : Value}
    {od11 an11 : Option Addr} {sl11 : Array (Option Value)} {oc11 kV11 dc11 pm11 cd11 ct11 : Value}
    {od12 an12 : Option Addr} {sl12 : Array (Option Value)} {oc12 kV12 dc12 pm12 cd12 ct12 : Value}
    {od13 an13 : Option Addr} {sl13 : Array (Option Value)} {oc13 kV13 dc13 pm13 cd13 ct13 : Value}
    {od14 an14 : Option Addr} {sl14 : Array (Option Value)} {oc14 kV14 dc14 pm14 cd14 ct14 : Value}
    {od15 an15 : Option Addr} {sl15 : Array (Option Value)} {oc15 kV15 dc15 pm15 cd15 ct15 : Value}
    {od16 an16 : Option Addr} {sl16 : Array (Option Value)} {oc16 kV16 dc16 pm16 cd16 ct16 : Value}
    {od17 an17 : Option Addr} {sl17 : Array (Option Value)} {oc17 kV17 dc17 pm17 cd17 ct17 : Value}
    (aI : PySem.W.nsIn K mainGlobals "InvalidNumber" = some (some (.ref CI))) (aW : PySem.W.nsIn K mainGlobals "WireError" = some (some (.ref W)))
    (xL : K.lookup CI = some (excClassObj nm q CI N bs [.ref W, .type "ValueError", .type "Exception", .type "BaseException", .type "object"] true sn sub ab col dd m0 m1 m2 m3 m5 "ValueError.__new__"))
    (aC : PySem.W.nsIn K mainGlobals "Ratio" = some (some (.ref C))) (aF : PySem.W.nsIn K mainGlobals "FIGURES" = some (some (.str "0123456789" tF)))
    (a1 : PySem.W.findIn K (.ref C) "__init__" = some (some (.ref f1))) (i1 : PySem.W.isFn K (.ref f1) = true)
    (l1 : K.lookup f1 = some ⟨oc1, od1, .func (PySem.W.fnOf "__init__" "Ratio.__init__" (defArgs sInit) (defBody sInit) (defScope sInit) (.ref Td) kV1 dc1 pm1 an1 cd1 ct1), sl1⟩) (c1 : PySem.W.codeIn K cd1 "Ratio.__init__" = true) (k1 : PySem.W.keepIn K (.ref f1) = true)
    (lT : K.lookup Td = some ⟨ocT, odT, .seq #[.int 1 tT] nT, slT⟩)
    (a2 : PySem.W.findIn K (.ref C) "__str__" = some (some (.ref f2))) (i2 : PySem.W.isFn K (.ref f2) = true)
    (l2 : K.lookup f2 = some ⟨oc2, od2, .func (PySem.W.fnOf "__str__" "Ratio.__str__" (defArgs sStr) (defBody sStr) (defScope sStr) .none kV2 dc2 pm2 an2 cd2 ct2), sl2⟩) (c2 : PySem.W.codeIn K cd2 "Ratio.__str__" = true) (k2 : PySem.W.keepIn K (.ref f2) = true)
    (a3 : PySem.W.findCls K (.ref C) (.type "type") "parse" = some (.get (.builtin "staticmethod.__get__") (.ref p3) .none (.ref C))) (r3 : PySem.W.recIn K p3 "staticmethod" = some (.ref f3 :: rs3))
    (l3 : K.lookup f3 = some ⟨oc3, od3, .func (PySem.W.fnOf "parse" "Ratio.parse" (defArgs sParse) (defBody sParse) (defScope sParse) .none kV3 dc3 pm3 an3 cd3 ct3), sl3⟩) (c3 : PySem.W.codeIn K cd3 "Ratio.parse" = true) (k3 : PySem.W.keepIn K (.ref f3) = true)
    (a4 : PySem.W.findIn K (.ref CI) "__init__" = some (some (.ref f4))) (t4 : PySem.W.typeIn K (.ref f4) = some (.type "function"))
    (l4 : K.lookup f4 = some ⟨oc4, od4, .func (PySem.W.fnOf "__init__" "InvalidNumber.__init__" (defArgs sErr) (defBody sErr) (defScope sErr) .none kV4 dc4 pm4 an4 cd4 ct4), sl4⟩) (c4 : PySem.W.codeIn K cd4 "InvalidNumber.__init__" = true) (k4 : PySem.W.keepIn K (.ref f4) = true)
    (a5 : PySem.W.nsIn K mainGlobals "is_integer" = some (some (.ref f5)))
    (l5 : K.lookup f5 = some ⟨oc5, od5, .func (PySem.W.fnOf "is_integer" "is_integer" (defArgs sIsInt) (defBody sIsInt) (defScope sIsInt) .none kV5 dc5 pm5 an5 cd5 ct5), sl5⟩) (c5 : PySem.W.codeIn K cd5 "is_integer" = true) (k5 : PySem.W.keepIn K (.ref f5) = true)
    (a6 : PySem.W.nsIn K mainGlobals "greatest_divisor" = some (some (.ref f6)))
    (l6 : K.lookup f6 = some ⟨oc6, od6, .func (PySem.W.fnOf "greatest_divisor" "greatest_divisor" (defArgs sGcd) (defBody sGcd) (defScope sGcd) .none kV6 dc6 pm6 an6 cd6 ct6), sl6⟩) (c6 : PySem.W.codeIn K cd6 "greatest_divisor" = true) (k6 : PySem.W.keepIn K (.ref f6) = true)
    (a7 : PySem.W.nsIn K mainGlobals "is_plain" = some (some (.ref f7)))
    (l7 : K.lookup f7 = some ⟨oc7, od7, .func (PySem.W.fnOf "is_plain" "is_plain" (defArgs sPlain) (defBody sPlain) (defScope sPlain) .none kV7 dc7 pm7 an7 cd7 ct7), sl7⟩) (c7 : PySem.W.codeIn K cd7 "is_plain" = true) (k7 : PySem.W.keepIn K (.ref f7) = true)
    (a8 : PySem.W.nsIn K mainGlobals "read_ratio" = some (some (.ref f8)))
    (l8 : K.lookup f8 = some ⟨oc8, od8, .func (PySem.W.fnOf "read_ratio" "read_ratio" (defArgs sRead) (defBody sRead) (defScope sRead) .none kV8 dc8 pm8 an8 cd8 ct8), sl8⟩) (c8 : PySem.W.codeIn K cd8 "read_ratio" = true) (k8 : PySem.W.keepIn K (.ref f8) = true)
    (a9 : PySem.W.nsIn K mainGlobals "_law_draws" = some (some (.ref f9)))
    (l9 : K.lookup f9 = some ⟨oc9, od9, .func (PySem.W.fnOf "_law_draws" "_law_draws" (defArgs sDraws) (defBody sDraws) (defScope sDraws) .none kV9 dc9 pm9 an9 cd9 ct9), sl9⟩) (c9 : PySem.W.codeIn K cd9 "_law_draws" = true) (k9 : PySem.W.keepIn K (.ref f9) = true)
    (a10 : PySem.W.nsIn K mainGlobals "_law_draw" = some (some (.ref f10)))
    (l10 : K.lookup f10 = some ⟨oc10, od10, .func (PySem.W.fnOf "_law_draw" "_law_draw" (defArgs sDraw) (defBody sDraw) (defScope sDraw) .none kV10 dc10 pm10 an10 cd10 ct10), sl10⟩) (c10 : PySem.W.codeIn K cd10 "_law_draw" = true) (k10 : PySem.W.keepIn K (.ref f10) = true)
    (a11 : PySem.W.nsIn K mainGlobals "_law_plain" = some (some (.ref f11)))
    (l11 : K.lookup f11 = some ⟨oc11, od11, .func (PySem.W.fnOf "_law_plain" "_law_plain" (defArgs sLPlain) (defBody sLPlain) (defScope sLPlain) .none kV11 dc11 pm11 an11 cd11 ct11), sl11⟩) (c11 : PySem.W.codeIn K cd11 "_law_plain" = true) (k11 : PySem.W.keepIn K (.ref f11) = true)
    (a12 : PySem.W.nsIn K mainGlobals "_law_divisor" = some (some (.ref f12)))
    (l12 : K.lookup f12 = some ⟨oc12, od12, .func (PySem.W.fnOf "_law_divisor" "_law_divisor" (defArgs sLDiv) (defBody sLDiv) (defScope sLDiv) .none kV12 dc12 pm12 an12 cd12 ct12), sl12⟩) (c12 : PySem.W.codeIn K cd12 "_law_divisor" = true) (k12 : PySem.W.keepIn K (.ref f12) = true)
    (a13 : PySem.W.nsIn K mainGlobals "_law_due" = some (some (.ref f13)))
    (l13 : K.lookup f13 = some ⟨oc13, od13, .func (PySem.W.fnOf "_law_due" "_law_due" (defArgs sDue) (defBody sDue) (defScope sDue) .none kV13 dc13 pm13 an13 cd13 ct13), sl13⟩) (c13 : PySem.W.codeIn K cd13 "_law_due" = true) (k13 : PySem.W.keepIn K (.ref f13) = true)
    (a14 : PySem.W.nsIn K mainGlobals "_law_told" = some (some (.ref f14)))
    (l14 : K.lookup f14 = some ⟨oc14, od14, .func (PySem.W.fnOf "_law_told" "_law_told" (defArgs sTold) (defBody sTold) (defScope sTold) .none kV14 dc14 pm14 an14 cd14 ct14), sl14⟩) (c14 : PySem.W.codeIn K cd14 "_law_told" = true) (k14 : PySem.W.keepIn K (.ref f14) = true)
    (a15 : PySem.W.nsIn K mainGlobals "_law_right" = some (some (.ref f15)))
    (l15 : K.lookup f15 = some ⟨oc15, od15, .func (PySem.W.fnOf "_law_right" "_law_right" (defArgs sRight) (defBody sRight) (defScope sRight) .none kV15 dc15 pm15 an15 cd15 ct15), sl15⟩) (c15 : PySem.W.codeIn K cd15 "_law_right" = true) (k15 : PySem.W.keepIn K (.ref f15) = true)
    (a16 : PySem.W.nsIn K mainGlobals "_law_text" = some (some (.ref f16)))
    (l16 : K.lookup f16 = some ⟨oc16, od16, .func (PySem.W.fnOf "_law_text" "_law_text" (defArgs sText) (defBody sText) (defScope sText) .none kV16 dc16 pm16 an16 cd16 ct16), sl16⟩) (c16 : PySem.W.codeIn K cd16 "_law_text" = true) (k16 : PySem.W.keepIn K (.ref f16) = true)
    (a17 : PySem.W.nsIn K mainGlobals "law" = some (some (.ref f17)))
    (l17 : K.lookup f17 = some ⟨oc17, od17, .func (PySem.W.fnOf "law" "law" (defArgs sLaw) (defBody sLaw) (defScope sLaw) .none kV17 dc17 pm17 an17 cd17 ct17), sl17⟩) (c17 : PySem.W.codeIn K cd17 "law" = true) (k17 : PySem.W.keepIn K (.ref f17) = true)
    (pg : PySem.W.plainGet K C Str.empty = true)
    (hd : PySem.W.hasDictIn K C = true)
    (po : PySem.W.plainOver K C = true)
    (sa : PySem.W.findIn K (.ref C) "__setattr__" = some (some (.builtin "object.__setattr__")))
    (mk : PySem.W.makesIn K C = true)
    (kc : PySem.W.keepIn K (.ref C) = true)
    (nT_ : PySem.W.findIn K (.ref C) "top" = some none)
    (nB : PySem.W.findIn K (.ref C) "bottom" = some none)
    (ha : PySem.W.findIn K (.ref C) "__class__" = some (some (.builtin "object.__class__")))
    (hn : PySem.W.specialIn K (.builtin "object.__class__") "__get__" = some (some (.builtin "getset_descriptor.__get__")))
    (htk : PySem.W.takesIn K (.builtin "object.__class__") = some true)
    (hm : PySem.W.mroIn K C (.type "object") = some true)
    (sS : PySem.W.subIn K (.ref C) (.type "str") = some false)
    (cr : PySem.W.readsIn K C (.type "type") = true)
    (cg : PySem.W.specialIn K (.ref C) "__getattribute__" = some (some (.builtin "type.__getattribute__")))
    (wr : PySem.W.readsIn K W (.type "type") = true)
    (wg : PySem.W.specialIn K (.ref W) "__getattribute__" = some (some (.builtin "type.__getattribute__")))
    (wi : PySem.W.findCls K (.ref W) (.type "type") "__init__" = some (.val (.builtin "ValueError.__init__")))
    (xs : PySem.W.findIn K (.ref CI) "__setattr__" = some (some (.builtin "object.__setattr__")))
    (xb : PySem.W.subIn K (.ref CI) (.type "BaseException") = some true)
    (xt : PySem.W.typeIn K (.ref CI) = some (.type "type"))
    (xk : PySem.W.keepIn K (.ref CI) = true)
    (xn : PySem.W.findIn K (.ref CI) "given" = some none)
    (xg : PySem.W.findIn K (.ref CI) "__getattribute__" = some (some (.builtin "BaseException.__getattribute__")))
    (xh : PySem.W.findIn K (.ref CI) "__getattr__" = some none)
    (xd : PySem.W.hasDictIn K CI = true)
    (xx : PySem.W.subIn K (.ref CI) (.ref CI) = some true)
    (z_str : PySem.W.nsIn K mainGlobals "str" = some none)
    (z_len : PySem.W.nsIn K mainGlobals "len" = some none)
    (z_isinstance : PySem.W.nsIn K mainGlobals "isinstance" = some none)
    (z_all : PySem.W.nsIn K mainGlobals "all" = some none)
    (z_range : PySem.W.nsIn K mainGlobals "range" = some none)
    (z_int : PySem.W.nsIn K mainGlobals "int" = some none)
    (z_abs : PySem.W.nsIn K mainGlobals "abs" = some none)
    (z_bool : PySem.W.nsIn K mainGlobals "bool" = some none)
    (z_max : PySem.W.nsIn K mainGlobals "max" = some none)
    (z_min : PySem.W.nsIn K mainGlobals "min" = some none) :
    ∃ fd : FuncData, (∀ (s : Shared) (v : Value), BindsTo s fd ⟨[v], []⟩ [("_law_script", v)]) ∧ ∀ base : Heap, K.In base → base.Ns mainGlobals mg → FnOk l.prog w K mg base CX0 7 fa fd ["_law_script"] (spLaw K) := by
  have e := hfa.symm.trans (PySem.W.mg_of X G a17)
  cases e
  have T : RTxt K mg C := ⟨⟨pg, hd, po, sa⟩, nT_, nB, PySem.W.mg_of X G aC⟩
  have RI : RIns K C := ⟨ha, hn, htk, hm, kit_str sS⟩
  have B : Blt mg := ⟨PySem.W.mg_none_of X G z_str, PySem.W.mg_none_of X G z_len, PySem.W.mg_none_of X G z_isinstance, PySem.W.mg_none_of X G z_all, PySem.W.mg_none_of X G z_range, PySem.W.mg_none_of X G z_int, PySem.W.mg_none_of X G z_abs, PySem.W.mg_none_of X G z_bool, PySem.W.mg_none_of X G z_max, PySem.W.mg_none_of X G z_min⟩
  have F1 : FunD K "__init__" "Ratio.__init__" (defArgs sInit) (defBody sInit) (defScope sInit) [.int 1] [] f1 _ := ⟨⟨oc1, od1, _, _, _, _, _, _, _, sl1, rfl, l1, c1, .inr ⟨by simp, Td, _, [.int 1 tT], nT, rfl, lT, rfl, .cons ⟨_, rfl⟩ .nil⟩, .inl rfl⟩, k1⟩
  have b1 := binds_init F1
  have F2 := fun_mk (st := sStr) l2 c2 k2
  have b2 := F2.binds (ps := ["self"]) fun _ _ _ _ _ _ us hl => match us, hl with | [_], _ => rfl
  have F3 := fun_mk (st := sParse) l3 c3 k3
  have b3 := F3.binds (ps := ["text"]) fun _ _ _ _ _ _ us hl => match us, hl with | [_], _ => rfl
  have F4 := fun_mk (st := sErr) l4 c4 k4
  have b4 := F4.binds (ps := ["self", "given"]) fun _ _ _ _ _ _ us hl => match us, hl with | [_, _], _ => rfl
  have F5 := fun_mk (st := sIsInt) l5 c5 k5
  have b5 := F5.binds (ps := ["thing"]) fun _ _ _ _ _ _ us hl => match us, hl with | [_], _ => rfl
  have F6 := fun_mk (st := sGcd) l6 c6 k6
  have b6 := F6.binds (ps := ["one", "other"]) fun _ _ _ _ _ _ us hl => match us, hl with | [_, _], _ => rfl
  have F7 := fun_mk (st := sPlain) l7 c7 k7
  have b7 := F7.binds (ps := ["text"]) fun _ _ _ _ _ _ us hl => match us, hl with | [_], _ => rfl
  have F8 := fun_mk (st := sRead) l8 c8 k8
  have b8 := F8.binds (ps := ["text"]) fun _ _ _ _ _ _ us hl => match us, hl with | [_], _ => rfl
  have F9 := fun_mk (st := sDraws) l9 c9 k9
  have b9 := F9.binds (ps := ["_law_script", "_law_k"]) fun _ _ _ _ _ _ us hl => match us, hl with | [_, _], _ => rfl
  have F10 := fun_mk (st := sDraw) l10 c10 k10
  have b10 := F10.binds (ps := ["_law_draws_here", "_law_upto"]) fun _ _ _ _ _ _ us hl => match us, hl with | [_, _], _ => rfl
  have F11 := fun_mk (st := sLPlain) l11 c11 k11
  have b11 := F11.binds (ps := ["_law_text_here"]) fun _ _ _ _ _ _ us hl => match us, hl with | [_], _ => rfl
  have F12 := fun_mk (st := sLDiv) l12 c12 k12
  have b12 := F12.binds (ps := ["_law_one", "_law_other"]) fun _ _ _ _ _ _ us hl => match us, hl with | [_, _], _ => rfl
  have F13 := fun_mk (st := sDue) l13 c13 k13
  have b13 := F13.binds (ps := ["_law_text_here"]) fun _ _ _ _ _ _ us hl => match us, hl with | [_], _ => rfl
  have F14 := fun_mk (st := sTold) l14 c14 k14
  have b14 := F14.binds (ps := ["_law_value"]) fun _ _ _ _ _ _ us hl => match us, hl with | [_], _ => rfl
  have F15 := fun_mk (st := sRight) l15 c15 k15
  have b15 := F15.binds (ps := ["_law_text_here"]) fun _ _ _ _ _ _ us hl => match us, hl with | [_], _ => rfl
  have F16 := fun_mk (st := sText) l16 c16 k16
  have b16 := F16.binds (ps := ["_law_draws_here"]) fun _ _ _ _ _ _ us hl => match us, hl with | [_], _ => rfl
  have F17 := fun_mk (st := sLaw) l17 c17 k17
  have b17 := F17.binds (ps := ["_law_script"]) fun _ _ _ _ _ _ us hl => match us, hl with | [_], _ => rfl
  refine ⟨PySem.W.fnOf "law" "law" (defArgs sLaw) (defBody sLaw) (defScope sLaw) .none kV17 dc17 pm17 an17 cd17 ct17, fun s v => .of_eq rfl, fun base _ _ => ?_⟩
  have GI := ok_isInt (P := l.prog) (w := w) (mg := mg) (base := base) F5 B
  have GG := ok_gcd (P := l.prog) (w := w) (mg := mg) (base := base) F6 B
  have GN := ok_init (P := l.prog) (w := w) (base := base) F1 T GI b5 (PySem.W.mg_of X G a5) k5 GG b6 (PySem.W.mg_of X G a6) k6
  have GS := ok_str (P := l.prog) (w := w) (base := base) F2 T
  have GPl := ok_plain (P := l.prog) (w := w) (base := base) F7 (PySem.W.mg_of X G aF)
  have GR := ok_read (P := l.prog) (w := w) (base := base) F8 B GPl b7 (PySem.W.mg_of X G a7) k7
  have TE : ErrTxt K mg CI W f4 := ⟨⟨PySem.W.mg_of X G aW, wr, wg, wi⟩, ⟨⟨_, _, _, _, _, _, _, _, _, _, _, _, _, _, _, xL, rfl⟩, xs, xb, xt, xk⟩, PySem.W.mg_of X G aI, xn, a4, t4⟩
  have GER := ok_err (P := l.prog) (w := w) (base := base) F4 TE
  have xf : XfC K CI := ⟨xg, xh, xb, xd⟩
  have xm : PySem.W.exmOne K (.ref CI) (.ref CI) = some true := PySem.W.exm_ref xb xd xt xx
  have MK : Mk K C f1 := ⟨mk, a1, i1, kc⟩
  have MS : Meth K C "__str__" f2 := ⟨a2, i2, k2⟩
  have GPa := ok_parse (P := l.prog) (w := w) (base := base) F3 T B TE GER b4 GR b8 (PySem.W.mg_of X G a8) k8 MK GN b1 MS GS b2
  have SP : StatOf K C "parse" p3 f3 := ⟨cr, cg, a3, ⟨_, r3⟩, k3⟩
  have GD := ok_draw (P := l.prog) (w := w) (mg := mg) (base := base) F10 B
  have GDu := ok_due (P := l.prog) (w := w) (base := base) F13 B (ok_lplain F11 B) b11 (PySem.W.mg_of X G a11) k11 (ok_ldiv F12 B) b12 (PySem.W.mg_of X G a12) k12
  have GT := ok_told (P := l.prog) (w := w) (base := base) F14 T TE xf xm SP GPa b3
  have GRt := ok_right (P := l.prog) (w := w) (base := base) F15 T B SP GPa b3 GDu b13 (PySem.W.mg_of X G a13) k13 GT b14 (PySem.W.mg_of X G a14) k14 MS GS b2
  have GX := ok_text (P := l.prog) (w := w) (base := base) F16 T B GD b10 (PySem.W.mg_of X G a10) k10 MK GN b1 MS GS b2
  exact ok_law F17 T RI B MK GN b1 ⟨⟨_, _, PySem.W.mg_of X G a14, k14, GT, b14⟩⟩ ⟨⟨_, _, PySem.W.mg_of X G a15, k15, GRt, b15⟩⟩ ⟨⟨_, _, PySem.W.mg_of X G a9, k9, ok_draws F9 B, b9⟩⟩ ⟨⟨_, _, PySem.W.mg_of X G a16, k16, GX, b16⟩⟩
theorem walk {l : PySem.W.OpenLaw} {q : Program} {loose : List Str} {XP : (Str → Option Value) → Heap → Prop} {YP : World → Heap → Prop} {d : DefRec} {K : Params → PySem.W.Frag} (hn : l.most = some 63) (hdf : d.params.defaults = [])
    (hY : ∀ (w : World) (h : Heap), YP w h → (K w.params).In h)
    (F : ∀ (w : World) (mg : Str → Option Value) (fa : Addr) (h : Heap), (K w.params).In h → h.Ns mainGlobals mg → mg d.name = some (.ref fa) →
      ∃ fd : FuncData, (∀ (s : Shared) (u : Value), BindsTo s fd ⟨[u], []⟩ [("_law_script", u)]) ∧ ∀ base : Heap, (K w.params).In base → base.Ns mainGlobals mg → FnOk l.prog w (K w.params) mg base CX0 7 fa fd ["_law_script"] (spLaw (K w.params))) :
    PySem.W.WalkO q loose XP YP l.row.toRowW d [] (fun f vs => PySem.call f vs) :=
  L2.walk_of (n := 63) (k := 7) (x := "_law_script") (CX := fun _ => CX0) (sp := fun w => spLaw (K w.params)) hn (by decide) hdf ⟨rfl, by decide, by decide⟩ hY F (fun _ _ a ns hl _ hS => ⟨a, ns, rfl, hS, fun _ => rfl⟩) fun _ _ _ _ _ z => z
end QQ
open PySem PySem.W PyProof.Rows
set_option maxRecDepth 100000 in
set_option maxHeartbeats 0 in
theorem PySem.Challenge.cw_wishedwires_k02_ratios_as_texts_holds : PySem.Challenge.rw_wishedwires_k02_ratios_as_texts.Holds := by
  w_on; o_law; k_head; (case hw => w_witness2)
  k_fill
  refine QQ.walk (l := PySem.Challenge.rw_wishedwires_k02_ratios_as_texts) rfl rfl (fun w h Y => PySem.W.kIn_of Y) ?F
  case F =>
    intro w mg fa h KX G hmg
    refine' QQ.all_mk KX G hmg ?aI ?aW ?xL ?aC ?aF ?a1 ?i1 ?l1 ?c1 ?k1 ?lT ?a2 ?i2 ?l2 ?c2 ?k2 ?a3 ?r3 ?l3 ?c3 ?k3 ?a4 ?t4 ?l4 ?c4 ?k4 ?a5 ?l5 ?c5 ?k5 ?a6 ?l6 ?c6 ?k6 ?a7 ?l7 ?c7 ?k7 ?a8 ?l8 ?c8 ?k8 ?a9 ?l9 ?c9 ?k9 ?a10 ?l10 ?c10 ?k10 ?a11 ?l11 ?c11 ?k11 ?a12 ?l12 ?c12 ?k12 ?a13 ?l13 ?c13 ?k13 ?a14 ?l14 ?c14 ?k14 ?a15 ?l15 ?c15 ?k15 ?a16 ?l16 ?c16 ?k16 ?a17 ?l17 ?c17 ?k17 ?pg ?hd ?po ?sa ?mk ?kc ?nT_ ?nB ?ha ?hn ?htk ?hm ?sS ?cr ?cg ?wr ?wg ?wi ?xs ?xb ?xt ?xk ?xn ?xg ?xh ?xd ?xx ?z_str ?z_len ?z_isinstance ?z_all ?z_range ?z_int ?z_abs ?z_bool ?z_max ?z_min
    (case aI => k_is)
    (case aW => k_is)
    (case xL => k_is)
    (case aC => k_is)
    (case aF => k_is)
    (case a1 => k_is)
    (case i1 => k_is)
    (case l1 => k_is)
    (case c1 => k_is)
    (case k1 => k_is)
    (case lT => k_is)
    (case a2 => k_is)
    (case i2 => k_is)
    (case l2 => k_is)
    (case c2 => k_is)
    (case k2 => k_is)
    (case a3 => k_is)
    (case r3 => k_is)
    (case l3 => k_is)
    (case c3 => k_is)
    (case k3 => k_is)
    (case a4 => k_is)
    (case t4 => k_is)
    (case l4 => k_is)
    (case c4 => k_is)
    (case k4 => k_is)
    (case a5 => k_is)
    (case l5 => k_is)
    (case c5 => k_is)
    (case k5 => k_is)
    (case a6 => k_is)
    (case l6 => k_is)
    (case c6 => k_is)
    (case k6 => k_is)
    (case a7 => k_is)
    (case l7 => k_is)
    (case c7 => k_is)
    (case k7 => k_is)
    (case a8 => k_is)
    (case l8 => k_is)
    (case c8 => k_is)
    (case k8 => k_is)
    (case a9 => k_is)
    (case l9 => k_is)
    (case c9 => k_is)
    (case k9 => k_is)
    (case a10 => k_is)
    (case l10 => k_is)
    (case c10 => k_is)
    (case k10 => k_is)
    (case a11 => k_is)
    (case l11 => k_is)
    (case c11 => k_is)
    (case k11 => k_is)
    (case a12 => k_is)
    (case l12 => k_is)
    (case c12 => k_is)
    (case k12 => k_is)
    (case a13 => k_is)
    (case l13 => k_is)
    (case c13 => k_is)
    (case k13 => k_is)
    (case a14 => k_is)
    (case l14 => k_is)
    (case c14 => k_is)
    (case k14 => k_is)
    (case a15 => k_is)
    (case l15 => k_is)
    (case c15 => k_is)
    (case k15 => k_is)
    (case a16 => k_is)
    (case l16 => k_is)
    (case c16 => k_is)
    (case k16 => k_is)
    (case a17 => k_is)
    (case l17 => k_is)
    (case c17 => k_is)
    (case k17 => k_is)
    (case pg => k_is)
    (case hd => k_is)
    (case po => k_is)
    (case sa => k_is)
    (case mk => k_is)
    (case kc => k_is)
    (case nT_ => k_is)
    (case nB => k_is)
    (case ha => k_is)
    (case hn => k_is)
    (case htk => k_is)
    (case hm => k_is)
    (case sS => k_is)
    (case cr => k_is)
    (case cg => k_is)
    (case wr => k_is)
    (case wg => k_is)
    (case wi => k_is)
    (case xs => k_is)
    (case xb => k_is)
    (case xt => k_is)
    (case xk => k_is)
    (case xn => k_is)
    (case xg => k_is)
    (case xh => k_is)
    (case xd => k_is)
    (case xx => k_is)
    (case z_str => k_is)
    (case z_len => k_is)
    (case z_isinstance => k_is)
    (case z_all => k_is)
    (case z_range => k_is)
    (case z_int => k_is)
    (case z_abs => k_is)
    (case z_bool => k_is)
    (case z_max => k_is)
    (case z_min => k_is)
#print axioms PySem.Challenge.cw_wishedwires_k02_ratios_as_texts_holds
