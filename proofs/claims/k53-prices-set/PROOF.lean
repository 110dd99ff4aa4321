import PyProof.Rows.All
import Wide.All
import OpenK.AllK
import Wide.FinOn
import HandS.ForMost
import HandS.ForExc
import HandS.ExcInit
import HandS.ExcField
import HandS.TryMany
import HandS.Walk
import HandS.IsInst
import HandS.More
import HandS.RaiseMore
import HandS.Codes
import HandS.Wide
import HandS.FStr
import HandS.Flow
import HandS.Defaults
import HandS.CallSlots
import HandS.Finally
import HandS.ExcIs
import HandS.OwnEq
import KE.KOpsOwn
import HandS.Property
import HandS.MakeKwOnly
import HandS.WordsDict
import KE.KExcIs
import PySem.Challenge.RW_wishedwires_k53_prices_set
set_option Elab.async false
set_option linter.all false
set_option maxRecDepth 100000
set_option maxHeartbeats 4000000
/-! PV: a calculus over plain data. D: data; frozen things are trees, things that change stand in a store. -/
namespace PV
open PySem PySem.Spec PyProof.Rows L2
/-- data -/
inductive D where
  | non | bl (b : Bool) | int (i : Int) | str (x : Str) | ty (n : String) | gl (a : Addr) | al (j : Nat)
  | lst (xs : List D) | tup (xs : List D) | dct (ks : List Key) (xs : List D) | ins (C : Addr) (ns : List Str) (xs : List D)
abbrev Sto := List (Option D)
abbrev En := List (Option D)
mutual
/-- a frozen datum (no part of it stands in the store) -/
def Rep (K : PySem.W.Frag) (F : Hp) : D → V → Prop
  | .non, v => v = .non
  | .bl b, v => v = .bl b
  | .int i, v => v = .int i
  | .str x, v => v = .str x
  | .ty n, v => v = .ty n
  | .gl a, v => v = .ref a
  | .al _, _ => False
  | .lst ds, v => ∃ a xs, v = .ref a ∧ SqL K F a xs ∧ Reps K F ds xs
  | .tup ds, v => ∃ a xs, v = .ref a ∧ SqT K F a xs ∧ Reps K F ds xs
  | .dct ks ds, v => ∃ a od xs, v = .ref a ∧ F a = some (.frz od (.dK (ks.zip xs))) ∧ ks.length = ds.length ∧ Reps K F ds xs
  | .ins C ns ds, v => ∃ a dx xs, v = .ref a ∧ F a = some (.ins C dx (ns.zip xs)) ∧ ns.length = ds.length ∧ Reps K F ds xs
def Reps (K : PySem.W.Frag) (F : Hp) : List D → List V → Prop
  | [], xs => xs = []
  | d :: ds, xs => ∃ x r, xs = x :: r ∧ Rep K F d x ∧ Reps K F ds r
end
/-- a datum: frozen, or a thing of the store -/
def RT (K : PySem.W.Frag) (γ : List Addr) (F : Hp) : D → V → Prop
  | .al j, v => ∃ a, γ[j]? = some a ∧ v = .ref a
  | d, v => Rep K F d v
def RTs (K : PySem.W.Frag) (γ : List Addr) (F : Hp) : List D → List V → Prop
  | [], xs => xs = []
  | d :: ds, xs => ∃ x r, xs = x :: r ∧ RT K γ F d x ∧ RTs K γ F ds r
def D.isAl : D → Bool
  | .al _ => true
  | _ => false
def noAl (ds : List D) : Bool := ds.all fun d => !d.isAl
section
variable {K : PySem.W.Frag} {γ γ' : List Addr} {F F' H H' N : Hp}
theorem SqT.same {a : Addr} {xs : List V} (s : Same F F') (h : SqT K F a xs) : SqT K F' a xs := by
  rcases h with (h | ⟨o, h⟩) | h
  · exact .inl (.inl (s _ _ h))
  · exact .inl (.inr ⟨o, s _ _ h⟩)
  · exact .inr h
theorem pre_get {j : Nat} {a : Addr} (p : γ <+: γ') (h : γ[j]? = some a) : γ'[j]? = some a := by
  obtain ⟨t, rfl⟩ := p
  rw [List.getElem?_append_left (List.getElem?_eq_some_iff.mp h).1]
  exact h
mutual
theorem Rep.mono (s : Same F F') : ∀ (d : D) {v : V}, Rep K F d v → Rep K F' d v
  | .non, v, h => by rw [Rep] at h ⊢; exact h
  | .bl b, v, h => by rw [Rep] at h ⊢; exact h
  | .int i, v, h => by rw [Rep] at h ⊢; exact h
  | .str x, v, h => by rw [Rep] at h ⊢; exact h
  | .ty n, v, h => by rw [Rep] at h ⊢; exact h
  | .gl a, v, h => by rw [Rep] at h ⊢; exact h
  | .al j, v, h => by rw [Rep] at h; exact h.elim
  | .lst ds, v, h => by rw [Rep] at h ⊢; obtain ⟨a, xs, h1, h2, h3⟩ := h; exact ⟨a, xs, h1, s.seq h2, Reps.mono s ds h3⟩
  | .tup ds, v, h => by rw [Rep] at h ⊢; obtain ⟨a, xs, h1, h2, h3⟩ := h; exact ⟨a, xs, h1, SqT.same s h2, Reps.mono s ds h3⟩
  | .dct ks ds, v, h => by rw [Rep] at h ⊢; obtain ⟨a, od, xs, h1, h2, h3, h4⟩ := h; exact ⟨a, od, xs, h1, s _ _ h2, h3, Reps.mono s ds h4⟩
  | .ins C ns ds, v, h => by rw [Rep] at h ⊢; obtain ⟨a, dx, xs, h1, h2, h3, h4⟩ := h; exact ⟨a, dx, xs, h1, s _ _ h2, h3, Reps.mono s ds h4⟩
theorem Reps.mono (s : Same F F') : ∀ (ds : List D) {xs : List V}, Reps K F ds xs → Reps K F' ds xs
  | [], xs, h => by rw [Reps] at h ⊢; exact h
  | d :: ds, xs, h => by rw [Reps] at h ⊢; obtain ⟨x, r, h1, h2, h3⟩ := h; exact ⟨x, r, h1, Rep.mono s d h2, Reps.mono s ds h3⟩
end
theorem Rep.rt {d : D} {v : V} (h : Rep K F d v) : RT K γ F d v := by
  cases d with
  | al j => rw [Rep] at h; exact h.elim
  | _ => exact h
theorem RT.rep {d : D} {v : V} (h : RT K γ F d v) (n : d.isAl = false) : Rep K F d v := by
  cases d with
  | al j => cases n
  | _ => exact h
theorem RT.mono (p : γ <+: γ') (s : Same F F') {d : D} {v : V} (h : RT K γ F d v) : RT K γ' F' d v := by
  cases d with
  | al j => obtain ⟨a, h1, h2⟩ := h; exact ⟨a, pre_get p h1, h2⟩
  | _ => exact Rep.rt (Rep.mono s _ h)
theorem RTs.nil : RTs K γ F [] [] := rfl
theorem RTs.cons {d : D} {ds : List D} {x : V} {xs : List V} (h : RT K γ F d x) (t : RTs K γ F ds xs) : RTs K γ F (d :: ds) (x :: xs) := ⟨x, xs, rfl, h, t⟩
theorem RTs.mono (p : γ <+: γ') (s : Same F F') : ∀ {ds : List D} {xs : List V}, RTs K γ F ds xs → RTs K γ' F' ds xs
  | [], xs, h => h
  | d :: ds, xs, ⟨x, r, h1, h2, h3⟩ => ⟨x, r, h1, h2.mono p s, h3.mono p s⟩
theorem RTs.len : ∀ {ds : List D} {xs : List V}, RTs K γ F ds xs → xs.length = ds.length
  | [], xs, h => by cases h; rfl
  | d :: ds, xs, ⟨x, r, h1, h2, h3⟩ => by subst h1; simp [h3.len]
theorem Reps.rt : ∀ {ds : List D} {xs : List V}, Reps K F ds xs → RTs K γ F ds xs
  | [], xs, h => by rw [Reps] at h; exact h
  | d :: ds, xs, h => by rw [Reps] at h; obtain ⟨x, r, h1, h2, h3⟩ := h; exact ⟨x, r, h1, h2.rt, h3.rt⟩
theorem RTs.reps : ∀ {ds : List D} {xs : List V}, RTs K γ F ds xs → noAl ds = true → Reps K F ds xs
  | [], xs, h, _ => by rw [Reps]; exact h
  | d :: ds, xs, ⟨x, r, h1, h2, h3⟩, n => by
    rw [noAl, List.all_cons, Bool.and_eq_true, Bool.not_eq_true'] at n
    rw [Reps]
    exact ⟨x, r, h1, h2.rep n.1, h3.reps n.2⟩
theorem RTs.get : ∀ {ds : List D} {xs : List V} {i : Nat} {d : D}, RTs K γ F ds xs → ds[i]? = some d → ∃ x, xs[i]? = some x ∧ RT K γ F d x
  | [], xs, i, d, h, e => by simp at e
  | d0 :: ds, xs, i, d, h, e => by
    obtain ⟨x, r, rfl, h2, h3⟩ := h
    cases i with
    | zero => simp at e; subst e; exact ⟨x, rfl, h2⟩
    | succ i => simp at e; obtain ⟨y, h4, h5⟩ := h3.get e; exact ⟨y, by simpa using h4, h5⟩
theorem RTs.at : ∀ {ds : List D} {xs : List V} {i : Nat} {x : V}, RTs K γ F ds xs → xs[i]? = some x → ∃ d, ds[i]? = some d ∧ RT K γ F d x := fun {ds xs i x} h e => by
  have hl := h.len
  have hi : i < xs.length := (List.getElem?_eq_some_iff.mp e).1
  have hd : ds[i]? = some ds[i] := List.getElem?_eq_getElem (by omega)
  obtain ⟨y, h1, h2⟩ := h.get hd
  rw [e] at h1; cases h1
  exact ⟨_, hd, h2⟩
theorem RTs.append : ∀ {ds es : List D} {xs ys : List V}, RTs K γ F ds xs → RTs K γ F es ys → RTs K γ F (ds ++ es) (xs ++ ys)
  | [], es, xs, ys, h, h' => by cases h; exact h'
  | d :: ds, es, xs, ys, h, h' => by
    obtain ⟨x, r, rfl, h2, h3⟩ := h
    exact ⟨x, _, rfl, h2, h3.append h'⟩
theorem RTs.set : ∀ {ds : List D} {xs : List V} {d : D} {x : V} (i : Nat), RTs K γ F ds xs → RT K γ F d x → RTs K γ F (ds.set i d) (xs.set i x)
  | [], xs, d, x, i, h, h' => by cases h; rfl
  | d0 :: ds, xs, d, x, i, h, h' => by
    obtain ⟨x0, r, rfl, h2, h3⟩ := h
    cases i with
    | zero => exact ⟨x, r, rfl, h', h3⟩
    | succ i => exact ⟨x0, _, rfl, h2, h3.set i h'⟩
theorem Reps.len {ds : List D} {xs : List V} (h : Reps K F ds xs) : xs.length = ds.length := RTs.len (γ := []) h.rt
theorem Reps.nil : Reps K F [] [] := by rw [Reps]
theorem Reps.cons {d : D} {ds : List D} {x : V} {xs : List V} (h : Rep K F d x) (t : Reps K F ds xs) : Reps K F (d :: ds) (x :: xs) := by rw [Reps]; exact ⟨x, xs, rfl, h, t⟩
theorem Reps.get : ∀ {ds : List D} {xs : List V} {i : Nat} {d : D}, Reps K F ds xs → ds[i]? = some d → ∃ x, xs[i]? = some x ∧ Rep K F d x
  | [], xs, i, d, h, e => by simp at e
  | d0 :: ds, xs, i, d, h, e => by
    rw [Reps] at h; obtain ⟨x, r, rfl, h2, h3⟩ := h
    cases i with
    | zero => simp at e; subst e; exact ⟨x, rfl, h2⟩
    | succ i => simp at e; obtain ⟨y, h4, h5⟩ := h3.get e; exact ⟨y, by simpa using h4, h5⟩
theorem Reps.at {ds : List D} {xs : List V} {i : Nat} {x : V} (h : Reps K F ds xs) (e : xs[i]? = some x) : ∃ d, ds[i]? = some d ∧ Rep K F d x := by
  have hl := h.len
  have hi : i < xs.length := (List.getElem?_eq_some_iff.mp e).1
  have hd : ds[i]? = some ds[i] := List.getElem?_eq_getElem (by omega)
  obtain ⟨y, h1, h2⟩ := h.get hd
  rw [e] at h1; cases h1
  exact ⟨_, hd, h2⟩
theorem Rep.isAl {d : D} {v : V} (h : Rep K F d v) : d.isAl = false := by
  cases d with
  | al j => rw [Rep] at h; exact h.elim
  | _ => rfl
theorem Reps.noAl : ∀ {ds : List D} {xs : List V}, Reps K F ds xs → noAl ds = true
  | [], xs, h => rfl
  | d :: ds, xs, h => by
    rw [Reps] at h; obtain ⟨x, r, rfl, h2, h3⟩ := h
    rw [PV.noAl, List.all_cons, h2.isAl]
    exact h3.noAl
/-- a thing of the store at the address a -/
def RepO (K : PySem.W.Frag) (γ : List Addr) (F H : Hp) (a : Addr) : D → Prop
  | .lst ds => ∃ xs, H a = some (.lst xs) ∧ RTs K γ F ds xs
  | .dct ks ds => ∃ xs, H a = some (.dK (ks.zip xs)) ∧ ks.length = ds.length ∧ RTs K γ F ds xs
  | .ins C ns ds => ∃ dx xs, H a = some (.ins C dx (ns.zip xs)) ∧ ns.length = ds.length ∧ RTs K γ F ds xs
  | _ => False
theorem RepO.mono {a : Addr} {d : D} (p : γ <+: γ') (s : Same F F') (e : H' a = H a) (h : RepO K γ F H a d) : RepO K γ' F' H' a d := by
  cases d with
  | lst ds => obtain ⟨xs, h1, h2⟩ := h; exact ⟨xs, e.trans h1, h2.mono p s⟩
  | dct ks ds => obtain ⟨xs, h1, h2, h3⟩ := h; exact ⟨xs, e.trans h1, h2, h3.mono p s⟩
  | ins C ns ds => obtain ⟨dx, xs, h1, h2, h3⟩ := h; exact ⟨dx, xs, e.trans h1, h2, h3.mono p s⟩
  | _ => exact h.elim
theorem RepO.there {a : Addr} {d : D} (h : RepO K γ F H a d) : ∃ o, H a = some o := by
  cases d with
  | lst ds => obtain ⟨xs, h1, h2⟩ := h; exact ⟨_, h1⟩
  | dct ks ds => obtain ⟨xs, h1, h2, h3⟩ := h; exact ⟨_, h1⟩
  | ins C ns ds => obtain ⟨dx, xs, h1, h2, h3⟩ := h; exact ⟨_, h1⟩
  | _ => exact h.elim
/-- the store stands in the heap; F: what never changes any more -/
structure RepS (K : PySem.W.Frag) (N : Hp) (γ : List Addr) (F H : Hp) (δ : Sto) : Prop where
  sub : Same F H
  sub2 : Same N H
  dis : ∀ a o, N a = some o → F a = none
  disg : ∀ a ∈ γ, ∀ o, N a = some o → ∃ od u, o = .frz od u
  len : γ.length = δ.length
  nd : γ.Nodup
  live : ∀ a ∈ γ, ∃ o, H a = some o
  off : ∀ (j : Nat) a d, γ[j]? = some a → δ[j]? = some (some d) → F a = none ∧ N a = none
  obj : ∀ (j : Nat) a d, γ[j]? = some a → δ[j]? = some (some d) → RepO K γ F H a d
def RepE (K : PySem.W.Frag) (γ : List Addr) (F : Hp) (σ : L2.St) (ρ : En) : Prop := ρ.length = σ.length ∧ ∀ (i : Nat) d, ρ[i]? = some (some d) → ∃ v, σ[i]? = some (some v) ∧ RT K γ F d v
theorem RepE.mono {σ : L2.St} {ρ : En} (p : γ <+: γ') (s : Same F F') (h : RepE K γ F σ ρ) : RepE K γ' F' σ ρ := ⟨h.1, fun i d e => by
  obtain ⟨v, h1, h2⟩ := h.2 i d e
  exact ⟨v, h1, h2.mono p s⟩⟩
theorem RepE.set {σ : L2.St} {ρ : En} {i : Nat} {d : D} {v : V} (h : RepE K γ F σ ρ) (r : RT K γ F d v) : RepE K γ F (σ.set i (some v)) (ρ.set i (some d)) := ⟨by simpa using h.1, fun j d' e => by
  by_cases hj : j = i
  · subst hj
    have hl : j < ρ.length := by
      have := (List.getElem?_eq_some_iff.mp e).1
      simpa using this
    rw [List.getElem?_set_self hl] at e
    cases e
    exact ⟨v, by rw [List.getElem?_set_self (by rw [← h.1]; exact hl)], r⟩
  · rw [List.getElem?_set_ne (Ne.symm hj)] at e
    obtain ⟨u, h1, h2⟩ := h.2 j d' e
    exact ⟨u, by rw [List.getElem?_set_ne (Ne.symm hj)]; exact h1, h2⟩⟩
theorem pre_refl : γ <+: γ := ⟨[], by simp⟩
/-- a new frozen thing -/
theorem RepS.frozen {δ : Sto} {p : Addr} {o : HO} (h : RepS K N γ F H δ) (hp : H p = none) : RepS K N γ (upd F p o) (upd H p o) δ ∧ Same F (upd F p o) := by
  have hf : F p = none := h.sub.free hp
  have hn : N p = none := h.sub2.free hp
  have sm : Same F (upd F p o) := fun b u e => by rw [upd_ne (ne_of_none e hf)]; exact e
  have ne : ∀ (j : Nat) a, γ[j]? = some a → a ≠ p := fun j a e z => by
    obtain ⟨o, q⟩ := h.live a (List.mem_of_getElem? e)
    rw [z, hp] at q; cases q
  refine ⟨⟨fun b u e => ?_, fun b u e => by rw [upd_ne (ne_of_none e hn)]; exact h.sub2 _ _ e, fun b u e => by rw [upd_ne (ne_of_none e hn)]; exact h.dis b u e, h.disg, h.len, h.nd, fun a ha => ?_, fun j a d e1 e2 => ?_, fun j a d e1 e2 => ?_⟩, sm⟩
  · by_cases hb : b = p
    · subst hb; rw [upd_same] at e ⊢; exact e
    · rw [upd_ne hb] at e ⊢; exact h.sub _ _ e
  · obtain ⟨q, e⟩ := h.live a ha
    obtain ⟨j, e2⟩ := List.mem_iff_getElem?.mp ha
    exact ⟨q, by rw [upd_ne (ne j a e2)]; exact e⟩
  · rw [upd_ne (ne j a e1)]; exact h.off j a d e1 e2
  · exact (h.obj j a d e1 e2).mono pre_refl sm (upd_ne (ne j a e1))
/-- a new thing of the store -/
theorem RepS.made {δ : Sto} {p : Addr} {o : HO} {d : D} (h : RepS K N γ F H δ) (hp : H p = none) (hd : RepO K (γ ++ [p]) F (upd H p o) p d) : RepS K N (γ ++ [p]) F (upd H p o) (δ ++ [some d]) := by
  have hf : F p = none := h.sub.free hp
  have hn : N p = none := h.sub2.free hp
  have px : γ <+: γ ++ [p] := ⟨[p], rfl⟩
  have ne : ∀ a ∈ γ, a ≠ p := fun a ha z => by
    obtain ⟨o, q⟩ := h.live a ha
    rw [z, hp] at q; cases q
  have cases_ : ∀ (j : Nat) a d', (γ ++ [p])[j]? = some a → (δ ++ [some d])[j]? = some (some d') → (γ[j]? = some a ∧ δ[j]? = some (some d')) ∨ (a = p ∧ d' = d) := fun j a d' e1 e2 => by
    by_cases hj : j < γ.length
    · rw [List.getElem?_append_left hj] at e1
      rw [List.getElem?_append_left (by rw [← h.len]; exact hj)] at e2
      exact .inl ⟨e1, e2⟩
    · have : j = γ.length := by
        have := (List.getElem?_eq_some_iff.mp e1).1
        simp at this; omega
      subst this
      rw [List.getElem?_append_right (Nat.le_refl _)] at e1
      rw [List.getElem?_append_right (by rw [h.len]; exact Nat.le_refl _)] at e2
      rw [Nat.sub_self] at e1
      rw [h.len, Nat.sub_self] at e2
      injection e1 with e1; injection e2 with e2; injection e2 with e2
      exact .inr ⟨e1.symm, e2.symm⟩
  refine ⟨fun b u e => ?_, fun b u e => by rw [upd_ne (ne_of_none e hn)]; exact h.sub2 _ _ e, h.dis, fun a ha => (List.mem_append.mp ha).elim (h.disg a) (fun z o e => by simp at z; subst z; rw [hn] at e; cases e), by simp [h.len], ?_, fun a ha => ?_, fun j a d' e1 e2 => ?_, fun j a d' e1 e2 => ?_⟩
  · rw [upd_ne (ne_of_none e hf)]; exact h.sub _ _ e
  · rw [List.nodup_append]
    exact ⟨h.nd, by simp, fun a ha b hb => by simp at hb; subst hb; exact ne a ha⟩
  · rcases List.mem_append.mp ha with ha | ha
    · obtain ⟨q, e⟩ := h.live a ha
      exact ⟨q, by rw [upd_ne (ne a ha)]; exact e⟩
    · simp at ha; subst ha; exact ⟨_, upd_same⟩
  · rcases cases_ j a d' e1 e2 with ⟨q1, q2⟩ | ⟨rfl, rfl⟩
    · exact h.off j a d' q1 q2
    · exact ⟨hf, hn⟩
  · rcases cases_ j a d' e1 e2 with ⟨q1, q2⟩ | ⟨rfl, rfl⟩
    · exact (h.obj j a d' q1 q2).mono px (Same.refl _) (upd_ne (ne a (List.mem_of_getElem? q1)))
    · exact hd
theorem nd_ix {j i : Nat} {a : Addr} (nd : γ.Nodup) (h1 : γ[j]? = some a) (h2 : γ[i]? = some a) : j = i := by
  obtain ⟨l1, e1⟩ := List.getElem?_eq_some_iff.mp h1
  obtain ⟨l2, e2⟩ := List.getElem?_eq_some_iff.mp h2
  exact (List.getElem_inj nd).mp (e1.trans e2.symm)
/-- a thing of the store is changed -/
theorem RepS.put {δ : Sto} {a : Addr} {j : Nat} {o : HO} {d d0 : D} (h : RepS K N γ F H δ) (ha : γ[j]? = some a) (h0 : δ[j]? = some (some d0)) (hd : RepO K γ F (upd H a o) a d) : RepS K N γ F (upd H a o) (δ.set j (some d)) := by
  obtain ⟨hf, hn⟩ := h.off j a d0 ha h0
  have hj : j < δ.length := (List.getElem?_eq_some_iff.mp h0).1
  refine ⟨fun b u e => ?_, fun b u e => by rw [upd_ne (ne_of_none e hn)]; exact h.sub2 _ _ e, h.dis, h.disg, by simpa using h.len, h.nd, fun b hb => ?_, fun i b d' e1 e2 => ?_, fun i b d' e1 e2 => ?_⟩
  · rw [upd_ne (ne_of_none e hf)]; exact h.sub _ _ e
  · by_cases hba : b = a
    · subst hba; exact ⟨_, upd_same⟩
    · obtain ⟨q, e⟩ := h.live b hb
      exact ⟨q, by rw [upd_ne hba]; exact e⟩
  · by_cases hi : i = j
    · subst hi; rw [ha] at e1; cases e1; exact ⟨hf, hn⟩
    · rw [List.getElem?_set_ne (Ne.symm hi)] at e2
      exact h.off i b d' e1 e2
  · by_cases hi : i = j
    · subst hi; rw [ha] at e1; cases e1
      rw [List.getElem?_set_self hj] at e2; cases e2
      exact hd
    · rw [List.getElem?_set_ne (Ne.symm hi)] at e2
      have : b ≠ a := fun z => hi (nd_ix h.nd (z ▸ e1) ha)
      exact (h.obj i b d' e1 e2).mono pre_refl (Same.refl _) (upd_ne this)
/-- every reference in the store leads into the store -/
def Scoped (δ : Sto) : Prop := ∀ (j : Nat) o, δ[j]? = some (some o) → ∀ k, (match o with | .lst ds => D.al k ∈ ds | .dct _ ds => D.al k ∈ ds | .ins _ _ ds => D.al k ∈ ds | _ => False) → k < δ.length
theorem RTs.al_lt : ∀ {ds : List D} {xs : List V} {k : Nat}, RTs K γ F ds xs → D.al k ∈ ds → k < γ.length
  | d :: ds, xs, k, ⟨x, r, h1, h2, h3⟩, m => by
    rcases List.mem_cons.mp m with e | m
    · subst e
      obtain ⟨a, q, _⟩ := h2
      exact (List.getElem?_eq_some_iff.mp q).1
    · exact h3.al_lt m
theorem RepS.scoped {δ : Sto} (h : RepS K N γ F H δ) : Scoped δ := fun j o e k m => by
  have hj : j < δ.length := (List.getElem?_eq_some_iff.mp e).1
  obtain ⟨a, ha⟩ : ∃ a, γ[j]? = some a := ⟨_, List.getElem?_eq_getElem (by rw [h.len]; exact hj)⟩
  have q := h.obj j a o ha e
  rw [← h.len]
  cases o with
  | lst ds => obtain ⟨xs, _, r⟩ := q; exact r.al_lt m
  | dct ks ds => obtain ⟨xs, _, _, r⟩ := q; exact r.al_lt m
  | ins C ns ds => obtain ⟨dx, xs, _, _, r⟩ := q; exact r.al_lt m
  | _ => exact m.elim
theorem RT.take {n : Nat} {d : D} {v : V} (h : RT K γ F d v) (l : ∀ k, d = .al k → k < n) : RT K (γ.take n) F d v := by
  cases d with
  | al j => obtain ⟨a, h1, h2⟩ := h; exact ⟨a, by rw [List.getElem?_take_of_lt (l j rfl)]; exact h1, h2⟩
  | _ => exact h
theorem RTs.take {n : Nat} : ∀ {ds : List D} {xs : List V}, RTs K γ F ds xs → (∀ k, D.al k ∈ ds → k < n) → RTs K (γ.take n) F ds xs
  | [], xs, h, _ => h
  | d :: ds, xs, ⟨x, r, h1, h2, h3⟩, l => ⟨x, r, h1, h2.take fun k e => l k (by rw [e]; exact List.mem_cons_self), h3.take fun k m => l k (List.mem_cons_of_mem _ m)⟩
/-- what stands behind in the store is forgotten -/
theorem RepS.forget {δ ε : Sto} (h : RepS K N γ F H (δ ++ ε)) (sc : Scoped δ) : RepS K N (γ.take δ.length) F H δ := by
  have hl : δ.length ≤ γ.length := by rw [h.len, List.length_append]; omega
  have g : ∀ (j : Nat) a, (γ.take δ.length)[j]? = some a → γ[j]? = some a := fun j a e => by
    by_cases hj : j < δ.length
    · rw [List.getElem?_take_of_lt hj] at e; exact e
    · rw [List.getElem?_eq_none (by rw [List.length_take]; omega)] at e; cases e
  have gd : ∀ (j : Nat) o, δ[j]? = some (some o) → (δ ++ ε)[j]? = some (some o) := fun j o e => by
    rw [List.getElem?_append_left (List.getElem?_eq_some_iff.mp e).1]; exact e
  refine ⟨h.sub, h.sub2, h.dis, fun a ha => h.disg a (List.mem_of_mem_take ha), by rw [List.length_take]; omega, h.nd.sublist (List.take_sublist _ _), fun a ha => h.live a (List.mem_of_mem_take ha), fun j a d e1 e2 => h.off j a d (g j a e1) (gd j d e2), fun j a d e1 e2 => ?_⟩
  have q := h.obj j a d (g j a e1) (gd j d e2)
  have s := sc j d e2
  cases d with
  | lst ds => obtain ⟨xs, h1, r⟩ := q; exact ⟨xs, h1, r.take s⟩
  | dct ks ds => obtain ⟨xs, h1, h2, r⟩ := q; exact ⟨xs, h1, h2, r.take s⟩
  | ins C ns ds => obtain ⟨dx, xs, h1, h2, r⟩ := q; exact ⟨dx, xs, h1, h2, r.take s⟩
  | _ => exact q.elim
/-- a list or an instance of the store is frozen -/
theorem RepS.freeze {δ : Sto} {j : Nat} {a : Addr} {o : HO} (h : RepS K N γ F H δ) (ha : γ[j]? = some a) (hH : H a = some o) (hF : F a = none) (hN : N a = none) : RepS K N γ (upd F a o) H (δ.set j none) ∧ Same F (upd F a o) := by
  have sm : Same F (upd F a o) := fun b u e => by rw [upd_ne (ne_of_none e hF)]; exact e
  have ne : ∀ (i : Nat) b d, γ[i]? = some b → (δ.set j none)[i]? = some (some d) → b ≠ a ∧ δ[i]? = some (some d) := fun i b d e1 e2 => by
    by_cases hi : i = j
    · subst hi
      rw [List.getElem?_set] at e2
      simp at e2
    · rw [List.getElem?_set_ne (Ne.symm hi)] at e2
      exact ⟨fun z => hi (nd_ix h.nd (z ▸ e1) ha), e2⟩
  refine ⟨⟨fun b u e => ?_, h.sub2, fun b u e => by rw [upd_ne (ne_of_none e hN)]; exact h.dis b u e, h.disg, by simpa using h.len, h.nd, h.live, fun i b d e1 e2 => ?_, fun i b d e1 e2 => ?_⟩, sm⟩
  · by_cases hb : b = a
    · subst hb; rw [upd_same] at e; cases e; exact hH
    · rw [upd_ne hb] at e; exact h.sub _ _ e
  · obtain ⟨q1, q2⟩ := ne i b d e1 e2
    rw [upd_ne q1]; exact h.off i b d e1 q2
  · obtain ⟨q1, q2⟩ := ne i b d e1 e2
    exact (h.obj i b d e1 q2).mono pre_refl sm rfl
end
end PV
namespace PV
open PySem PySem.Spec PyProof.Rows L2
/-! ### readings by meaning -/
def tSem (X : Cx) (e : Expr) : TE := fun σ H Q => ∀ pins s, Inv X pins σ H s → wpAny (model X.prog X.w) X.A (eval e X.env) (EP X pins σ Q) X.xe s
def bSem (X : Cx) (e : Expr) : TT := fun σ H Q => ∀ pins s, Inv X pins σ H s → wpAny (model X.prog X.w) X.A (isTrue e X.env (eval e X.env)) (TP X pins σ Q) X.xe s
def wSem (X : Cx) (e : Expr) : TT := fun σ H Q => ∀ whole pins s, Inv X pins σ H s → wpAny (model X.prog X.w) X.A (isTrue e X.env whole) (TP X pins σ Q) X.xe s
def aSem (X : Cx) (es : List Expr) : TA := fun σ H Q => ∀ pos pins s, Inv X pins σ H s → wpAny (model X.prog X.w) X.A (spliced (backTo pos (starEach es X.env))) (AP X pins σ Q) X.xe s
def sSem (X : Cx) (st : Stmt) : TS := fun D σ H => ∀ pins s, Inv X pins σ H s → wpAny (model X.prog X.w) X.A (exec st X.env) (SP X pins D) X.xe s
def ssSem (X : Cx) (sts : List Stmt) : TS := fun D σ H => ∀ pins s, Inv X pins σ H s → wpAny (model X.prog X.w) X.A (execs sts X.env) (SP X pins D) X.xe s
def gSem (X : Cx) (tg : Expr) : TG := fun v σ H Q => ∀ pins s u, Inv X pins σ H s → RelV v u → wpAny (model X.prog X.w) X.A (assign tg X.env u) (fun _ s' => ∃ σ' H', Inv X pins σ' H' s' ∧ Q σ' H') X.xe s
def iSem (X : Cx) (tg iter : Expr) : TI := fun σ H R => ∀ pins s, Inv X pins σ H s → wpAny (model X.prog X.w) X.A (eval iter X.env) (fun v s1 => wpAny (model X.prog X.w) X.A (pyIter v) (PIE X pins σ tg R) X.xe s1) X.xe s
section
variable {X : Cx} {e tg iter : Expr} {es : List Expr} {st : Stmt} {sts : List Stmt} {σ : L2.St} {H : Hp}
theorem pe_sem : PE X e (tSem X e) := ⟨fun pins s σ H Q I h => h pins s I⟩
theorem pt_sem : PT X e (bSem X e) := ⟨fun pins s σ H Q I h => h pins s I⟩
theorem pw_sem : PW X e (wSem X e) := ⟨fun whole pins s σ H Q I h => h whole pins s I⟩
theorem pa_sem : PA X es (aSem X es) := ⟨fun pos pins s σ H Q I h => h pos pins s I⟩
theorem ps_sem : PS X st (sSem X st) := ⟨fun pins s σ H Q I h => h pins s I⟩
theorem pss_sem : PSs X sts (ssSem X sts) := ⟨fun pins s σ H Q I h => h pins s I⟩
theorem pg_sem : PG X tg (gSem X tg) := ⟨fun pins s σ H v u Q I r h => h pins s u I r⟩
theorem pi_sem : PI X tg iter (iSem X tg iter) := ⟨fun pins s σ H R I h => h pins s I⟩
theorem t_of {t : TE} {Q : VK} (p : PE X e t) (h : t σ H Q) : tSem X e σ H Q := fun pins s I => p.run pins s σ H Q I h
theorem b_of {t : TT} {Q : Bool → Hp → Prop} (p : PT X e t) (h : t σ H Q) : bSem X e σ H Q := fun pins s I => p.run pins s σ H Q I h
theorem w_of {t : TT} {Q : Bool → Hp → Prop} (p : PW X e t) (h : t σ H Q) : wSem X e σ H Q := fun wh pins s I => p.run wh pins s σ H Q I h
theorem a_of {t : TA} {Q : List V → Hp → Prop} (p : PA X es t) (h : t σ H Q) : aSem X es σ H Q := fun pos pins s I => p.run pos pins s σ H Q I h
theorem s_of {t : TS} {D : Ends} (p : PS X st t) (h : t D σ H) : sSem X st D σ H := fun pins s I => p.run pins s σ H D I h
theorem ss_of {t : TS} {D : Ends} (p : PSs X sts t) (h : t D σ H) : ssSem X sts D σ H := fun pins s I => p.run pins s σ H D I h
theorem g_of {t : TG} {v : V} {Q : L2.St → Hp → Prop} (p : PG X tg t) (h : t v σ H Q) : gSem X tg v σ H Q := fun pins s u I r => p.run pins s σ H v u Q I r h
theorem i_of {t : TI} {R : It → Hp → Prop} (p : PI X tg iter t) (h : t σ H R) : iSem X tg iter σ H R := fun pins s I => p.run pins s σ H R I h
theorem tSem.mono {Q Q' : VK} (h : tSem X e σ H Q) (q : ∀ v H', Q v H' → Q' v H') : tSem X e σ H Q' := fun pins s I =>
  thn (h pins s I) fun u s' ⟨v, H', I', r, z⟩ => ⟨v, H', I', r, q _ _ z⟩
theorem bSem.mono {Q Q' : Bool → Hp → Prop} (h : bSem X e σ H Q) (q : ∀ v H', Q v H' → Q' v H') : bSem X e σ H Q' := fun pins s I =>
  thn (h pins s I) fun u s' ⟨H', I', z⟩ => ⟨H', I', q _ _ z⟩
theorem wSem.mono {Q Q' : Bool → Hp → Prop} (h : wSem X e σ H Q) (q : ∀ v H', Q v H' → Q' v H') : wSem X e σ H Q' := fun wh pins s I =>
  thn (h wh pins s I) fun u s' ⟨H', I', z⟩ => ⟨H', I', q _ _ z⟩
theorem aSem.mono {Q Q' : List V → Hp → Prop} (h : aSem X es σ H Q) (q : ∀ v H', Q v H' → Q' v H') : aSem X es σ H Q' := fun pos pins s I =>
  thn (h pos pins s I) fun u s' ⟨v, H', I', r, z⟩ => ⟨v, H', I', r, q _ _ z⟩
theorem gSem.mono {v : V} {Q Q' : L2.St → Hp → Prop} (h : gSem X tg v σ H Q) (q : ∀ v H', Q v H' → Q' v H') : gSem X tg v σ H Q' := fun pins s u I r =>
  thn (h pins s u I r) fun _ s' ⟨v, H', I', z⟩ => ⟨v, H', I', q _ _ z⟩
theorem iSem.mono {R R' : It → Hp → Prop} (h : iSem X tg iter σ H R) (q : ∀ J H', R J H' → R' J H') : iSem X tg iter σ H R' := fun pins s I =>
  thn (h pins s I) fun _ s' h1 => thn h1 fun _ s2 ⟨it, fp, tn, J, H', e, I', T, t0, f, r⟩ => ⟨it, fp, tn, J, H', e, I', T, t0, f, q _ _ r⟩
/-- one end is as good as another -/
structure EndsLe (D D' : Ends) : Prop where
  nx : ∀ σ H, D.nx σ H → D'.nx σ H
  rt : ∀ v H, D.rt v H → D'.rt v H
  bk : ∀ σ H, D.bk σ H → D'.bk σ H
  ct : ∀ σ H, D.ct σ H → D'.ct σ H
theorem SP.mono {pins : List (Addr × Obj)} {D D' : Ends} {f : Flow} {s : Shared} (l : EndsLe D D') (h : SP X pins D f s) : SP X pins D' f s := by
  cases f with
  | next => obtain ⟨σ, H, I, q⟩ := h; exact ⟨σ, H, I, l.nx _ _ q⟩
  | brk => obtain ⟨σ, H, I, q⟩ := h; exact ⟨σ, H, I, l.bk _ _ q⟩
  | cont => obtain ⟨σ, H, I, q⟩ := h; exact ⟨σ, H, I, l.ct _ _ q⟩
  | ret u => obtain ⟨v, σ, H, I, r, q⟩ := h; exact ⟨v, σ, H, I, r, l.rt _ _ q⟩
theorem sSem.mono {D D' : Ends} (h : sSem X st D σ H) (l : EndsLe D D') : sSem X st D' σ H := fun pins s I => thn (h pins s I) fun _ _ q => SP.mono l q
theorem ssSem.mono {D D' : Ends} (h : ssSem X sts D σ H) (l : EndsLe D D') : ssSem X sts D' σ H := fun pins s I => thn (h pins s I) fun _ _ q => SP.mono l q
end
/-! ### what is wanted, over data -/
def Out (K : PySem.W.Frag) (N : Hp) (γ : List Addr) (F : Hp) (Q : D → Sto → Prop) : VK := fun v H' => ∃ γ' F' d δ', γ <+: γ' ∧ Same F F' ∧ RepS K N γ' F' H' δ' ∧ RT K γ' F' d v ∧ Q d δ'
def OutB (K : PySem.W.Frag) (N : Hp) (γ : List Addr) (F : Hp) (Q : Bool → Sto → Prop) : Bool → Hp → Prop := fun b H' => ∃ γ' F' δ', γ <+: γ' ∧ Same F F' ∧ RepS K N γ' F' H' δ' ∧ Q b δ'
def OutA (K : PySem.W.Frag) (N : Hp) (γ : List Addr) (F : Hp) (Q : List D → Sto → Prop) : List V → Hp → Prop := fun vs H' => ∃ γ' F' ds δ', γ <+: γ' ∧ Same F F' ∧ RepS K N γ' F' H' δ' ∧ RTs K γ' F' ds vs ∧ Q ds δ'
def OutS (K : PySem.W.Frag) (N : Hp) (γ : List Addr) (F : Hp) (M : En → Sto → Prop) : L2.St → Hp → Prop := fun σ' H' => ∃ γ' F' ρ' δ', γ <+: γ' ∧ Same F F' ∧ RepS K N γ' F' H' δ' ∧ RepE K γ' F' σ' ρ' ∧ M ρ' δ'
structure DE where
  nx : En → Sto → Prop
  rt : D → Sto → Prop
  bk : En → Sto → Prop := fun _ _ => False
  ct : En → Sto → Prop := fun _ _ => False
def up (K : PySem.W.Frag) (N : Hp) (γ : List Addr) (F : Hp) (T : DE) : Ends := ⟨OutS K N γ F T.nx, Out K N γ F T.rt, OutS K N γ F T.bk, OutS K N γ F T.ct⟩
section
variable {K : PySem.W.Frag} {γ γ' : List Addr} {F F' N : Hp}
theorem Out.le {Q : D → Sto → Prop} {v : V} {H : Hp} (p : γ <+: γ') (s : Same F F') (h : Out K N γ' F' Q v H) : Out K N γ F Q v H := by
  obtain ⟨γ2, F2, d, δ, h1, h2, h3⟩ := h
  exact ⟨γ2, F2, d, δ, p.trans h1, s.trans h2, h3⟩
theorem OutB.le {Q : Bool → Sto → Prop} {v : Bool} {H : Hp} (p : γ <+: γ') (s : Same F F') (h : OutB K N γ' F' Q v H) : OutB K N γ F Q v H := by
  obtain ⟨γ2, F2, δ, h1, h2, h3⟩ := h
  exact ⟨γ2, F2, δ, p.trans h1, s.trans h2, h3⟩
theorem OutS.le {M : En → Sto → Prop} {σ : L2.St} {H : Hp} (p : γ <+: γ') (s : Same F F') (h : OutS K N γ' F' M σ H) : OutS K N γ F M σ H := by
  obtain ⟨γ2, F2, ρ, δ, h1, h2, h3⟩ := h
  exact ⟨γ2, F2, ρ, δ, p.trans h1, s.trans h2, h3⟩
theorem up_le {T : DE} (p : γ <+: γ') (s : Same F F') : EndsLe (up K N γ' F' T) (up K N γ F T) := ⟨fun _ _ h => h.le p s, fun _ _ h => h.le p s, fun _ _ h => h.le p s, fun _ _ h => h.le p s⟩
end
/-- an exception with what is given: class C, the datum g -/
abbrev XT := Addr → D → En → Sto → Prop
def OutW (K : PySem.W.Frag) (N : Hp) (γ : List Addr) (F : Hp) (T : XT) : WX := fun cls d σ H => ∃ γ' F' C dd v g ρ δ, cls = .ref C ∧ d = some dd ∧ γ <+: γ' ∧ Same F F' ∧ RepS K N γ' F' H δ ∧ RepE K γ' F' σ ρ ∧ F' dd = some (.xd [("given", v)]) ∧ RT K γ' F' g v ∧ T C g ρ δ
/-- the context -/
structure PX where
  X : Cx
  γ : List Addr
  F : Hp
  N : Hp
  T : XT
  tk : Takes X (OutW X.K N γ F T)
  po : PassesOwn (model X.prog X.w) X.A X.env X.xe
structure At (Y : PX) (γ : List Addr) (F H : Hp) (δ : Sto) (σ : L2.St) (ρ : En) : Prop where
  g : Y.γ <+: γ
  f : Same Y.F F
  s : RepS Y.X.K Y.N γ F H δ
  e : RepE Y.X.K γ F σ ρ
structure WE (Y : PX) (e : Expr) (ρ : En) (δ : Sto) (Q : D → Sto → Prop) : Prop where
  run : ∀ σ γ F H, At Y γ F H δ σ ρ → tSem Y.X e σ H (Out Y.X.K Y.N γ F Q)
structure WT (Y : PX) (e : Expr) (ρ : En) (δ : Sto) (Q : Bool → Sto → Prop) : Prop where
  run : ∀ σ γ F H, At Y γ F H δ σ ρ → bSem Y.X e σ H (OutB Y.X.K Y.N γ F Q)
structure WW (Y : PX) (e : Expr) (ρ : En) (δ : Sto) (Q : Bool → Sto → Prop) : Prop where
  run : ∀ σ γ F H, At Y γ F H δ σ ρ → wSem Y.X e σ H (OutB Y.X.K Y.N γ F Q)
structure WA (Y : PX) (es : List Expr) (ρ : En) (δ : Sto) (Q : List D → Sto → Prop) : Prop where
  run : ∀ σ γ F H, At Y γ F H δ σ ρ → aSem Y.X es σ H (OutA Y.X.K Y.N γ F Q)
structure WS (Y : PX) (st : Stmt) (ρ : En) (δ : Sto) (T : DE) : Prop where
  run : ∀ σ γ F H, At Y γ F H δ σ ρ → sSem Y.X st (up Y.X.K Y.N γ F T) σ H
structure WSs (Y : PX) (sts : List Stmt) (ρ : En) (δ : Sto) (T : DE) : Prop where
  run : ∀ σ γ F H, At Y γ F H δ σ ρ → ssSem Y.X sts (up Y.X.K Y.N γ F T) σ H
/-- a target takes the datum d -/
structure WG (Y : PX) (tg : Expr) (d : D) (ρ : En) (δ : Sto) (M : En → Sto → Prop) : Prop where
  run : ∀ σ γ F H v, At Y γ F H δ σ ρ → RT Y.X.K γ F d v → gSem Y.X tg v σ H (OutS Y.X.K Y.N γ F M)
section
variable {Y : PX} {e a b tg : Expr} {es : List Expr} {st : Stmt} {sts : List Stmt} {ρ : En} {δ : Sto} {σ : L2.St} {γ γ' : List Addr} {F F' H H' N : Hp} {pos : Pos}
theorem At.next {δ' : Sto} (A : At Y γ F H δ σ ρ) (p : γ <+: γ') (s : Same F F') (r : RepS Y.X.K Y.N γ' F' H' δ') : At Y γ' F' H' δ' σ ρ := ⟨A.g.trans p, A.f.trans s, r, A.e.mono p s⟩
/-- an expression in an expression: its value, then the rest -/
theorem WE.bind {Q : D → Sto → Prop} (h : WE Y e ρ δ Q) (A : At Y γ F H δ σ ρ) {R : VK}
    (k : ∀ v H' γ' F' d δ', γ <+: γ' → Same F F' → At Y γ' F' H' δ' σ ρ → RT Y.X.K γ' F' d v → Q d δ' → R v H') : tSem Y.X e σ H R :=
  (h.run σ γ F H A).mono fun v H' ⟨γ', F', d, δ', p, s, r, rv, q⟩ => k v H' γ' F' d δ' p s (A.next p s r) rv q
theorem WT.bind {Q : Bool → Sto → Prop} (h : WT Y e ρ δ Q) (A : At Y γ F H δ σ ρ) {R : Bool → Hp → Prop}
    (k : ∀ b H' γ' F' δ', γ <+: γ' → Same F F' → At Y γ' F' H' δ' σ ρ → Q b δ' → R b H') : bSem Y.X e σ H R :=
  (h.run σ γ F H A).mono fun v H' ⟨γ', F', δ', p, s, r, q⟩ => k v H' γ' F' δ' p s (A.next p s r) q
theorem WW.bind {Q : Bool → Sto → Prop} (h : WW Y e ρ δ Q) (A : At Y γ F H δ σ ρ) {R : Bool → Hp → Prop}
    (k : ∀ b H' γ' F' δ', γ <+: γ' → Same F F' → At Y γ' F' H' δ' σ ρ → Q b δ' → R b H') : wSem Y.X e σ H R :=
  (h.run σ γ F H A).mono fun v H' ⟨γ', F', δ', p, s, r, q⟩ => k v H' γ' F' δ' p s (A.next p s r) q
theorem WA.bind {Q : List D → Sto → Prop} (h : WA Y es ρ δ Q) (A : At Y γ F H δ σ ρ) {R : List V → Hp → Prop}
    (k : ∀ v H' γ' F' d δ', γ <+: γ' → Same F F' → At Y γ' F' H' δ' σ ρ → RTs Y.X.K γ' F' d v → Q d δ' → R v H') : aSem Y.X es σ H R :=
  (h.run σ γ F H A).mono fun v H' ⟨γ', F', d, δ', p, s, r, rv, q⟩ => k v H' γ' F' d δ' p s (A.next p s r) rv q
theorem Out.here {K : PySem.W.Frag} {Q : D → Sto → Prop} {v : V} {d : D} {δ : Sto} (r : RepS K N γ F H δ) (rv : RT K γ F d v) (q : Q d δ) : Out K N γ F Q v H := ⟨γ, F, d, δ, pre_refl, Same.refl _, r, rv, q⟩
theorem OutB.here {K : PySem.W.Frag} {Q : Bool → Sto → Prop} {b : Bool} {δ : Sto} (r : RepS K N γ F H δ) (q : Q b δ) : OutB K N γ F Q b H := ⟨γ, F, δ, pre_refl, Same.refl _, r, q⟩
theorem OutS.here {K : PySem.W.Frag} {M : En → Sto → Prop} {δ : Sto} (r : RepS K N γ F H δ) (re : RepE K γ F σ ρ) (q : M ρ δ) : OutS K N γ F M σ H := ⟨γ, F, ρ, δ, pre_refl, Same.refl _, r, re, q⟩
theorem WE.mono {Q Q' : D → Sto → Prop} (h : WE Y e ρ δ Q) (q : ∀ d δ, Q d δ → Q' d δ) : WE Y e ρ δ Q' := .mk fun σ γ F H A => (h.run σ γ F H A).mono fun v H' ⟨γ', F', d, δ', p, s, r, rv, z⟩ => ⟨γ', F', d, δ', p, s, r, rv, q _ _ z⟩
theorem WT.mono {Q Q' : Bool → Sto → Prop} (h : WT Y e ρ δ Q) (q : ∀ d δ, Q d δ → Q' d δ) : WT Y e ρ δ Q' := .mk fun σ γ F H A => (h.run σ γ F H A).mono fun v H' ⟨γ', F', δ', p, s, r, z⟩ => ⟨γ', F', δ', p, s, r, q _ _ z⟩
/-! ### names, constants -/
theorem we_var (i : Nat) {x : Str} {d : D} {Q : D → Sto → Prop} (h : ρ[i]? = some (some d)) (q : Q d δ) (hN : Y.X.N[i]? = some x := by rfl) (hv : Vis Y.X.env.scope x := by first | exact Or.inl rfl | exact Or.inr (Or.inl rfl) | exact Or.inr (Or.inr rfl)) (hd : (x == ("__debug__" : Str)) = false := by decide)
    (hcd : (x == ("__classdict__" : Str)) = false := by decide) : WE Y (.Name x pos) ρ δ Q := .mk fun σ γ F H A => by
  obtain ⟨v, h1, h2⟩ := A.e.2 i d h
  exact t_of (pe_var hN hv hd hcd) ⟨v, h1, Out.here A.s h2 q⟩
theorem we_int {i j} {Q : D → Sto → Prop} (q : Q (.int i) δ) : WE Y (.Constant (.int i) j pos) ρ δ Q := .mk fun σ γ F H A => t_of pe_int (Out.here A.s (Rep.rt (by rw [Rep])) q)
theorem we_bl {i j} {Q : D → Sto → Prop} (q : Q (.bl i) δ) : WE Y (.Constant (.bool i) j pos) ρ δ Q := .mk fun σ γ F H A => t_of pe_bl (Out.here A.s (Rep.rt (by rw [Rep])) q)
theorem we_non {j} {Q : D → Sto → Prop} (q : Q .non δ) : WE Y (.Constant .none j pos) ρ δ Q := .mk fun σ γ F H A => t_of pe_non (Out.here A.s (Rep.rt (by rw [Rep])) q)
theorem we_str {i j} {Q : D → Sto → Prop} (q : Q (.str i) δ) : WE Y (.Constant (.str i) j pos) ρ δ Q := .mk fun σ γ F H A => t_of pe_str (Out.here A.s (Rep.rt (by rw [Rep])) q)
/-! ### operators, by data -/
structure BinD (Y : PX) (ρ : En) (op : Operator) (da db : D) (δ : Sto) (Q : D → Sto → Prop) : Prop where
  run : ∀ pins s σ γ F H x y v u, Inv Y.X pins σ H s → At Y γ F H δ σ ρ → RT Y.X.K γ F da x → RT Y.X.K γ F db y → RelV x v → RelV y u →
  wpAny (model Y.X.prog Y.X.w) Y.X.A (binaryOp op v u) (EP Y.X pins σ (Out Y.X.K Y.N γ F Q)) Y.X.xe s
structure CmpD (Y : PX) (ρ : En) (op : CmpOp) (da db : D) (δ : Sto) (Q : D → Sto → Prop) : Prop where
  run : ∀ pins s σ γ F H x y v u, Inv Y.X pins σ H s → At Y γ F H δ σ ρ → RT Y.X.K γ F da x → RT Y.X.K γ F db y → RelV x v → RelV y u →
  wpAny (model Y.X.prog Y.X.w) Y.X.A (compareOp op v u) (EP Y.X pins σ (Out Y.X.K Y.N γ F Q)) Y.X.xe s
structure UnD (Y : PX) (ρ : En) (op : UnaryOp) (da : D) (δ : Sto) (Q : D → Sto → Prop) : Prop where
  run : ∀ pins s σ γ F H x v, Inv Y.X pins σ H s → At Y γ F H δ σ ρ → RT Y.X.K γ F da x → RelV x v →
  wpAny (model Y.X.prog Y.X.w) Y.X.A (unaryOp op v) (EP Y.X pins σ (Out Y.X.K Y.N γ F Q)) Y.X.xe s
structure CallD (Y : PX) (ρ : En) (f : Value) (ds : List D) (δ : Sto) (Q : D → Sto → Prop) : Prop where
  run : ∀ pins s σ γ F H xs us, Inv Y.X pins σ H s → At Y γ F H δ σ ρ → RTs Y.X.K γ F ds xs → Vals xs us →
  wpAny (model Y.X.prog Y.X.w) Y.X.A (call f us) (EP Y.X pins σ (Out Y.X.K Y.N γ F Q)) Y.X.xe s
structure TruD (Y : PX) (ρ : En) (d : D) (δ : Sto) (Q : Bool → Sto → Prop) : Prop where
  run : ∀ pins s σ γ F H x v, Inv Y.X pins σ H s → At Y γ F H δ σ ρ → RT Y.X.K γ F d x → RelV x v →
  wpAny (model Y.X.prog Y.X.w) Y.X.A (truthy v) (TP Y.X pins σ (OutB Y.X.K Y.N γ F Q)) Y.X.xe s
theorem EP.le {X : Cx} {K : PySem.W.Frag} {pins : List (Addr × Obj)} {Q : D → Sto → Prop} {u : Value} {s : Shared} (p : γ <+: γ') (q : Same F F') (h : EP X pins σ (Out K N γ' F' Q) u s) : EP X pins σ (Out K N γ F Q) u s := by
  obtain ⟨v, H', I, r, z⟩ := h
  exact ⟨v, H', I, r, z.le p q⟩
theorem TP.le {X : Cx} {K : PySem.W.Frag} {pins : List (Addr × Obj)} {Q : Bool → Sto → Prop} {b : Bool} {s : Shared} (p : γ <+: γ') (q : Same F F') (h : TP X pins σ (OutB K N γ' F' Q) b s) : TP X pins σ (OutB K N γ F Q) b s := by
  obtain ⟨H', I, z⟩ := h
  exact ⟨H', I, z.le p q⟩
theorem we_bin {op : Operator} {Q : D → Sto → Prop} (h : WE Y a ρ δ fun da δ1 => WE Y b ρ δ1 fun db δ2 => BinD Y ρ op da db δ2 Q) : WE Y (.BinOp a op b pos) ρ δ Q := .mk fun σ γ F H A pins s I => by
  refine wpAny_BinOp (thn (h.run σ γ F H A pins s I) fun v s1 ⟨x, H1, I1, rx, γ1, F1, d1, δ1, p1, q1, S1, R1, k1⟩ => thn (k1.run σ γ1 F1 H1 (A.next p1 q1 S1) pins s1 I1) fun u s2 ⟨y, H2, I2, ry, γ2, F2, d2, δ2, p2, q2, S2, R2, k2⟩ => ?_)
  exact thn (k2.run pins s2 σ γ2 F2 H2 x y v u I2 ((A.next p1 q1 S1).next p2 q2 S2) (R1.mono p2 q2) R2 rx ry) fun _ _ z => EP.le (p1.trans p2) (q1.trans q2) z
theorem we_cmp {op : CmpOp} {Q : D → Sto → Prop} (h : WE Y a ρ δ fun da δ1 => WE Y b ρ δ1 fun db δ2 => CmpD Y ρ op da db δ2 Q) (hm : behindInMarks op b = false := by first | exact nomark _ | rfl) : WE Y (.Compare a [op] [b] pos) ρ δ Q := .mk fun σ γ F H A pins s I => by
  refine wpAny_Compare1 (thn (h.run σ γ F H A pins s I) fun v s1 ⟨x, H1, I1, rx, γ1, F1, d1, δ1, p1, q1, S1, R1, k1⟩ => thn (k1.run σ γ1 F1 H1 (A.next p1 q1 S1) pins s1 I1) fun u s2 ⟨y, H2, I2, ry, γ2, F2, d2, δ2, p2, q2, S2, R2, k2⟩ => ?_) hm
  exact thn (k2.run pins s2 σ γ2 F2 H2 x y v u I2 ((A.next p1 q1 S1).next p2 q2 S2) (R1.mono p2 q2) R2 rx ry) fun _ _ z => EP.le (p1.trans p2) (q1.trans q2) z
theorem we_un {op : UnaryOp} {Q : D → Sto → Prop} (h : WE Y a ρ δ fun da δ1 => UnD Y ρ op da δ1 Q) : WE Y (.UnaryOp op a pos) ρ δ Q := .mk fun σ γ F H A pins s I => by
  refine UnaryOp_ (thn (h.run σ γ F H A pins s I) fun v s1 ⟨x, H1, I1, rx, γ1, F1, d1, δ1, p1, q1, S1, R1, k1⟩ => ?_)
  exact thn (k1.run pins s1 σ γ1 F1 H1 x v I1 (A.next p1 q1 S1) R1 rx) fun _ _ z => EP.le p1 q1 z
/-! ### tests -/
/-- a comparison as a test: its value is a bool -/
theorem wt_cmp {op : CmpOp} {Q : Bool → Sto → Prop} (h : WE Y a ρ δ fun da δ1 => WE Y b ρ δ1 fun db δ2 => CmpD Y ρ op da db δ2 fun d δ3 => ∃ k, d = .bl k ∧ Q k δ3) (hm : behindInMarks op b = false := by first | exact nomark _ | rfl) : WT Y (.Compare a [op] [b] pos) ρ δ Q := .mk fun σ γ F H A pins s I => by
  refine wpAny_isTrue_Compare1 (thn (h.run σ γ F H A pins s I) fun v s1 ⟨x, H1, I1, rx, γ1, F1, d1, δ1, p1, q1, S1, R1, k1⟩ => thn (k1.run σ γ1 F1 H1 (A.next p1 q1 S1) pins s1 I1) fun u s2 ⟨y, H2, I2, ry, γ2, F2, d2, δ2, p2, q2, S2, R2, k2⟩ => ?_) hm
  refine thn (k2.run pins s2 σ γ2 F2 H2 x y v u I2 ((A.next p1 q1 S1).next p2 q2 S2) (R1.mono p2 q2) R2 rx ry) fun c s3 ⟨z, H3, I3, rz, γ3, F3, d3, δ3, p3, q3, S3, R3, k, e, k3⟩ => ?_
  subst e
  change Rep _ _ _ _ at R3
  rw [Rep] at R3
  subst R3
  cases rz
  exact wpAny_truthy_bool ⟨H3, I3, γ3, F3, δ3, (p1.trans p2).trans p3, (q1.trans q2).trans q3, S3, k3⟩
theorem wt_val {Q : Bool → Sto → Prop} (h : WE Y e ρ δ fun d δ1 => TruD Y ρ d δ1 Q) (he : ∀ whole, isTrue e Y.X.env whole = (do let v ← whole; standAt e.pos; holding [v] (truthy v)) := by intro _; rfl) : WT Y e ρ δ Q := .mk fun σ γ F H A pins s I => by
  refine isTrue_plain (thn (h.run σ γ F H A pins s I) fun v s1 ⟨x, H1, I1, rx, γ1, F1, d1, δ1, p1, q1, S1, R1, k1⟩ => ?_) (he _)
  exact thn (k1.run pins s1 σ γ1 F1 H1 x v I1 (A.next p1 q1 S1) R1 rx) fun _ _ z => TP.le p1 q1 z
theorem wt_not {Q : Bool → Sto → Prop} (h : WT Y a ρ δ fun c δ1 => Q (!c) δ1) : WT Y (.UnaryOp .Not a pos) ρ δ Q := .mk fun σ γ F H A => b_of (pt_not pt_sem) (h.bind A fun b H1 γ1 F1 δ1 p1 q1 A1 k => ⟨γ1, F1, δ1, p1, q1, A1.s, k⟩)
theorem wt_bool {op vs} {Q : Bool → Sto → Prop} (h : WW Y (.BoolOp op vs pos) ρ δ Q) : WT Y (.BoolOp op vs pos) ρ δ Q := .mk fun σ γ F H A => b_of (PW.pt pw_sem) (h.run σ γ F H A)
theorem ww_and {r : List Expr} {Q : Bool → Sto → Prop} (h : WT Y a ρ δ fun c δ1 => (c = true → WW Y (.BoolOp .And (b :: r) pos) ρ δ1 Q) ∧ (c = false → Q false δ1)) : WW Y (.BoolOp .And (a :: b :: r) pos) ρ δ Q := .mk fun σ γ F H A => w_of (pw_and pt_sem pw_sem) (h.bind A fun c H1 γ1 F1 δ1 p1 q1 A1 k => by
  cases c with
  | true => rw [if_pos rfl]; exact ((k.1 rfl).run σ γ1 F1 H1 A1).mono fun b H' z => z.le p1 q1
  | false => rw [if_neg Bool.false_ne_true]; exact ⟨γ1, F1, δ1, p1, q1, A1.s, k.2 rfl⟩)
theorem ww_or {r : List Expr} {Q : Bool → Sto → Prop} (h : WT Y a ρ δ fun c δ1 => (c = true → Q true δ1) ∧ (c = false → WW Y (.BoolOp .Or (b :: r) pos) ρ δ1 Q)) : WW Y (.BoolOp .Or (a :: b :: r) pos) ρ δ Q := .mk fun σ γ F H A => w_of (pw_or pt_sem pw_sem) (h.bind A fun c H1 γ1 F1 δ1 p1 q1 A1 k => by
  cases c with
  | true => rw [if_pos rfl]; exact ⟨γ1, F1, δ1, p1, q1, A1.s, k.1 rfl⟩
  | false => rw [if_neg Bool.false_ne_true]; exact ((k.2 rfl).run σ γ1 F1 H1 A1).mono fun b H' z => z.le p1 q1)
theorem ww_and1 {Q : Bool → Sto → Prop} (h : WT Y a ρ δ Q) : WW Y (.BoolOp .And [a] pos) ρ δ Q := .mk fun σ γ F H A => w_of (pw_and1 pt_sem) (h.run σ γ F H A)
theorem ww_or1 {Q : Bool → Sto → Prop} (h : WT Y a ρ δ Q) : WW Y (.BoolOp .Or [a] pos) ρ δ Q := .mk fun σ γ F H A => w_of (pw_or1 pt_sem) (h.run σ γ F H A)
/-- and, or, not as values -/
theorem we_one {op} {Q : D → Sto → Prop} (h : WE Y a ρ δ Q) : WE Y (.BoolOp op [a] pos) ρ δ Q := .mk fun σ γ F H A => t_of (pe_one pe_sem) (h.run σ γ F H A)
theorem we_and {r : List Expr} {Q : D → Sto → Prop} (h : WE Y a ρ δ fun d δ1 => TruD Y ρ d δ1 fun c δ2 => (c = true → WE Y (.BoolOp .And (b :: r) pos) ρ δ2 Q) ∧ (c = false → Q d δ2)) : WE Y (.BoolOp .And (a :: b :: r) pos) ρ δ Q := .mk fun σ γ F H A pins s I => by
  refine BoolOp_and (thn (h.run σ γ F H A pins s I) fun v s1 ⟨x, H1, I1, rx, γ1, F1, d1, δ1, p1, q1, S1, R1, k1⟩ => ?_)
  refine thn (k1.run pins s1 σ γ1 F1 H1 x v I1 (A.next p1 q1 S1) R1 rx) fun c s2 ⟨H2, I2, γ2, F2, δ2, p2, q2, S2, k2⟩ => ?_
  cases c with
  | true => exact thn ((k2.1 rfl).run σ γ2 F2 H2 ((A.next p1 q1 S1).next p2 q2 S2) pins s2 I2) fun _ _ z => EP.le (p1.trans p2) (q1.trans q2) z
  | false => exact ⟨x, H2, I2, rx, γ2, F2, d1, δ2, p1.trans p2, q1.trans q2, S2, R1.mono p2 q2, k2.2 rfl⟩
theorem we_or {r : List Expr} {Q : D → Sto → Prop} (h : WE Y a ρ δ fun d δ1 => TruD Y ρ d δ1 fun c δ2 => (c = true → Q d δ2) ∧ (c = false → WE Y (.BoolOp .Or (b :: r) pos) ρ δ2 Q)) : WE Y (.BoolOp .Or (a :: b :: r) pos) ρ δ Q := .mk fun σ γ F H A pins s I => by
  refine BoolOp_or (thn (h.run σ γ F H A pins s I) fun v s1 ⟨x, H1, I1, rx, γ1, F1, d1, δ1, p1, q1, S1, R1, k1⟩ => ?_)
  refine thn (k1.run pins s1 σ γ1 F1 H1 x v I1 (A.next p1 q1 S1) R1 rx) fun c s2 ⟨H2, I2, γ2, F2, δ2, p2, q2, S2, k2⟩ => ?_
  cases c with
  | true => exact ⟨x, H2, I2, rx, γ2, F2, d1, δ2, p1.trans p2, q1.trans q2, S2, R1.mono p2 q2, k2.1 rfl⟩
  | false => exact thn ((k2.2 rfl).run σ γ2 F2 H2 ((A.next p1 q1 S1).next p2 q2 S2) pins s2 I2) fun _ _ z => EP.le (p1.trans p2) (q1.trans q2) z
theorem we_not {Q : D → Sto → Prop} (h : WE Y a ρ δ fun d δ1 => TruD Y ρ d δ1 fun c δ2 => Q (.bl (!c)) δ2) : WE Y (.UnaryOp .Not a pos) ρ δ Q := .mk fun σ γ F H A pins s I => by
  refine UnaryOp_ (thn (h.run σ γ F H A pins s I) fun v s1 ⟨x, H1, I1, rx, γ1, F1, d1, δ1, p1, q1, S1, R1, k1⟩ => ?_)
  refine not_of (thn (k1.run pins s1 σ γ1 F1 H1 x v I1 (A.next p1 q1 S1) R1 rx) fun c s2 ⟨H2, I2, γ2, F2, δ2, p2, q2, S2, k2⟩ => ?_)
  exact ⟨.bl (!c), H2, I2, rfl, γ2, F2, _, δ2, p1.trans p2, q1.trans q2, S2, Rep.rt (by rw [Rep]), k2⟩
theorem we_ifExp {c : Expr} {Q : D → Sto → Prop} (h : WT Y c ρ δ fun k δ1 => (k = true → WE Y a ρ δ1 Q) ∧ (k = false → WE Y b ρ δ1 Q)) : WE Y (.IfExp c a b pos) ρ δ Q := .mk fun σ γ F H A => t_of (pe_ifExp pt_sem pe_sem pe_sem) (h.bind A fun k H1 γ1 F1 δ1 p1 q1 A1 z => by
  cases k with
  | true => rw [if_pos rfl]; exact ((z.1 rfl).run σ γ1 F1 H1 A1).mono fun v H' y => y.le p1 q1
  | false => rw [if_neg Bool.false_ne_true]; exact ((z.2 rfl).run σ γ1 F1 H1 A1).mono fun v H' y => y.le p1 q1)
/-! ### arguments, displays -/
theorem wa_nil {Q : List D → Sto → Prop} (q : Q [] δ) : WA Y [] ρ δ Q := .mk fun σ γ F H A => a_of pa_nil ⟨γ, F, [], δ, pre_refl, Same.refl _, A.s, RTs.nil, q⟩
theorem wa_cons {Q : List D → Sto → Prop} (h : WE Y e ρ δ fun d δ1 => WA Y es ρ δ1 fun ds δ2 => Q (d :: ds) δ2) (hs : starEach (e :: es) Y.X.env = (false, eval e Y.X.env) :: starEach es Y.X.env := by rfl) : WA Y (e :: es) ρ δ Q := .mk fun σ γ F H A => a_of (pa_cons pe_sem pa_sem hs) (h.bind A fun v H1 γ1 F1 d δ1 p1 q1 A1 r1 k1 =>
  k1.bind A1 fun vs H2 γ2 F2 ds δ2 p2 q2 A2 r2 k2 => ⟨γ2, F2, d :: ds, δ2, p1.trans p2, q1.trans q2, A2.s, RTs.cons (r1.mono p2 q2) r2, k2⟩)
/-- a tuple -/
theorem we_tup {x1} {Q : D → Sto → Prop} (h : WA Y es ρ δ fun ds δ1 => ds.length ≤ sizeLine ∧ noAl ds = true ∧ Q (.tup ds) δ1) : WE Y (.Tuple es x1 pos) ρ δ Q := .mk fun σ γ F H A => t_of (pe_tup pa_sem) (h.bind A fun vs H1 γ1 F1 ds δ1 p1 q1 A1 r1 k1 => ⟨by rw [r1.len]; exact k1.1, fun p hp => by
  obtain ⟨S, sm⟩ := A1.s.frozen (o := .tup vs) hp
  exact ⟨γ1, _, _, δ1, p1, q1.trans sm, S, Rep.rt (by rw [Rep]; exact ⟨p, vs, rfl, SqT.of upd_same, Reps.mono sm _ (r1.reps k1.2.1)⟩), k1.2.2⟩⟩)
/-- a list that nobody changes -/
theorem we_lst {Q : D → Sto → Prop} (h : WA Y es ρ δ fun ds δ1 => ds.length ≤ sizeLine ∧ noAl ds = true ∧ Q (.lst ds) δ1) : WE Y (.List es pos) ρ δ Q := .mk fun σ γ F H A => t_of (pe_lst pa_sem) (h.bind A fun vs H1 γ1 F1 ds δ1 p1 q1 A1 r1 k1 => ⟨by rw [r1.len]; exact k1.1, fun p hp => by
  obtain ⟨S, sm⟩ := A1.s.frozen (o := .lst vs) hp
  exact ⟨γ1, _, _, δ1, p1, q1.trans sm, S, Rep.rt (by rw [Rep]; exact ⟨p, vs, rfl, SqL.of upd_same, Reps.mono sm _ (r1.reps k1.2.1)⟩), k1.2.2⟩⟩)
theorem get_last {γ : List Addr} {p : Addr} : (γ ++ [p])[γ.length]? = some p := by rw [List.getElem?_append_right (Nat.le_refl _), Nat.sub_self]; rfl
/-- a list of the store -/
theorem we_lstO {Q : D → Sto → Prop} (h : WA Y es ρ δ fun ds δ1 => ds.length ≤ sizeLine ∧ Q (.al δ1.length) (δ1 ++ [some (.lst ds)])) : WE Y (.List es pos) ρ δ Q := .mk fun σ γ F H A => t_of (pe_lst pa_sem) (h.bind A fun vs H1 γ1 F1 ds δ1 p1 q1 A1 r1 k1 => ⟨by rw [r1.len]; exact k1.1, fun p hp => by
  have px : γ1 <+: γ1 ++ [p] := ⟨[p], rfl⟩
  have S := A1.s.made (o := .lst vs) (d := .lst ds) hp ⟨vs, upd_same, r1.mono px (Same.refl _)⟩
  exact ⟨γ1 ++ [p], F1, .al δ1.length, _, p1.trans px, q1, S, ⟨p, by rw [← A1.s.len]; exact get_last, rfl⟩, k1.2⟩⟩)
/-! ### blocks and statements -/
theorem wss_nil {T : DE} (h : T.nx ρ δ) : WSs Y [] ρ δ T := .mk fun σ γ F H A => ss_of pss_nil (OutS.here A.s A.e h)
theorem wss_cons {T : DE} (h : WS Y st ρ δ { T with nx := fun ρ' δ' => WSs Y sts ρ' δ' T }) : WSs Y (st :: sts) ρ δ T := .mk fun σ γ F H A => ss_of (pss_cons ps_sem pss_sem) ((h.run σ γ F H A).mono ⟨fun σ' H' ⟨γ1, F1, ρ1, δ1, p1, q1, S1, E1, k1⟩ => (k1.run σ' γ1 F1 H' ⟨A.g.trans p1, A.f.trans q1, S1, E1⟩).mono (up_le p1 q1), fun _ _ z => z, fun _ _ z => z, fun _ _ z => z⟩)
theorem wss_one {T : DE} (h : WS Y st ρ δ T) : WSs Y [st] ρ δ T := .mk fun σ γ F H A => ss_of (pss_one ps_sem) (h.run σ γ F H A)
theorem WSs.mono {T T' : DE} (h : WSs Y sts ρ δ T) (n : ∀ ρ δ, T.nx ρ δ → T'.nx ρ δ) (r : ∀ d δ, T.rt d δ → T'.rt d δ) (b : ∀ ρ δ, T.bk ρ δ → T'.bk ρ δ) (c : ∀ ρ δ, T.ct ρ δ → T'.ct ρ δ) : WSs Y sts ρ δ T' := .mk fun σ γ F H A => (h.run σ γ F H A).mono
  ⟨fun _ _ ⟨g, f, x, y, a1, a2, a3, a4, a5⟩ => ⟨g, f, x, y, a1, a2, a3, a4, n _ _ a5⟩, fun _ _ ⟨g, f, x, y, a1, a2, a3, a4, a5⟩ => ⟨g, f, x, y, a1, a2, a3, a4, r _ _ a5⟩, fun _ _ ⟨g, f, x, y, a1, a2, a3, a4, a5⟩ => ⟨g, f, x, y, a1, a2, a3, a4, b _ _ a5⟩, fun _ _ ⟨g, f, x, y, a1, a2, a3, a4, a5⟩ => ⟨g, f, x, y, a1, a2, a3, a4, c _ _ a5⟩⟩
theorem ws_pass {T : DE} (h : T.nx ρ δ) : WS Y (.Pass pos) ρ δ T := .mk fun σ γ F H A => s_of ps_pass (OutS.here A.s A.e h)
theorem ws_break {T : DE} (h : T.bk ρ δ) : WS Y (.Break pos) ρ δ T := .mk fun σ γ F H A => s_of ps_break (OutS.here A.s A.e h)
theorem ws_continue {T : DE} (h : T.ct ρ δ) : WS Y (.Continue pos) ρ δ T := .mk fun σ γ F H A => s_of ps_continue (OutS.here A.s A.e h)
theorem ws_doc {x j p'} {T : DE} (h : T.nx ρ δ) : WS Y (.Expr (.Constant (.str x) j p') pos) ρ δ T := .mk fun σ γ F H A => s_of ps_doc (OutS.here A.s A.e h)
theorem ws_expr {T : DE} (h : WE Y e ρ δ fun _ δ1 => T.nx ρ δ1) (hs : swapsWith e none pos.line Y.X.env = pure false := by rfl) : WS Y (.Expr e pos) ρ δ T := .mk fun σ γ F H A => s_of (ps_expr pe_sem hs) (h.bind A fun v H1 γ1 F1 d δ1 p1 q1 A1 r1 k1 => ⟨γ1, F1, ρ, δ1, p1, q1, A1.s, A1.e, k1⟩)
theorem ws_ret {T : DE} (h : WE Y e ρ δ T.rt) : WS Y (.Return (some e) pos) ρ δ T := .mk fun σ γ F H A => s_of (ps_ret pe_sem) (h.run σ γ F H A)
theorem ws_retN {T : DE} (h : T.rt .non δ) : WS Y (.Return none pos) ρ δ T := .mk fun σ γ F H A => s_of ps_retN (Out.here A.s (Rep.rt (by rw [Rep])) h)
theorem ws_if {c : Expr} {sa sb : List Stmt} {T : DE} (h : WT Y c ρ δ fun k δ1 => (k = true → WSs Y sa ρ δ1 T) ∧ (k = false → WSs Y sb ρ δ1 T)) : WS Y (.If c sa sb pos) ρ δ T := .mk fun σ γ F H A => s_of (ps_if pt_sem pss_sem pss_sem) (h.bind A fun k H1 γ1 F1 δ1 p1 q1 A1 z => by
  cases k with
  | true => rw [if_pos rfl]; exact ((z.1 rfl).run σ γ1 F1 H1 A1).mono (up_le p1 q1)
  | false => rw [if_neg Bool.false_ne_true]; exact ((z.2 rfl).run σ γ1 F1 H1 A1).mono (up_le p1 q1))
/-- targets -/
theorem wg_name (i : Nat) {x : Str} {d : D} {M : En → Sto → Prop} (h : M (ρ.set i (some d)) δ) (hN : Y.X.N.Nodup) (hi : Y.X.N[i]? = some x) (hx : Loc Y.X.env.scope x) (hf : Y.X.fn x = true ∨ Y.X.env.scope.names.lookup x = some .local) : WG Y (.Name x pos) d ρ δ M := .mk fun σ γ F H v A r =>
  g_of (pg_name hN hi hx hf) (OutS.here A.s (A.e.set r) h)
theorem ws_set (i : Nat) {x : Str} {p' : Pos} {T : DE} (h : WE Y e ρ δ fun d δ1 => T.nx (ρ.set i (some d)) δ1) (hN : Y.X.N.Nodup) (hi : Y.X.N[i]? = some x) (hx : Loc Y.X.env.scope x) (hs : swapsWith e (some (.Name x p')) pos.line Y.X.env = pure false) (hf : Y.X.fn x = true ∨ Y.X.env.scope.names.lookup x = some .local) :
    WS Y (.Assign [.Name x p'] e pos) ρ δ T := .mk fun σ γ F H A => s_of (ps_set hN hi hx pe_sem hs hf) (h.bind A fun v H1 γ1 F1 d δ1 p1 q1 A1 r1 k1 => ⟨γ1, F1, _, δ1, p1, q1, A1.s, A1.e.set r1, k1⟩)
theorem ws_asg {T : DE} (h : WE Y e ρ δ fun d δ1 => WG Y tg d ρ δ1 T.nx) (hs : swapsWithSole [tg] e pos.line Y.X.env = pure false := by rfl) (hw : swappedStores [tg] e Y.X.env = pure none := by rfl)
    (h1 : (assignEach [tg] Y.X.env).map (·.2) = [assign tg Y.X.env] := by rfl) : WS Y (.Assign [tg] e pos) ρ δ T := .mk fun σ γ F H A => s_of (ps_asg pe_sem pg_sem hs hw h1) (h.bind A fun v H1 γ1 F1 d δ1 p1 q1 A1 r1 k1 => (k1.run σ γ1 F1 H1 v A1 r1).mono fun _ _ z => z.le p1 q1)
end
end PV
namespace PV
open PySem PySem.Spec PyProof.Rows L2
abbrev RK := D → Sto → Prop
abbrev XD := Addr → D → Sto → Prop
/-- a def's promise over data: the arguments, the store; what is wanted of the answer, of an exception -/
abbrev DSp := List D → Sto → RK → XD → Prop
def OutX (K : PySem.W.Frag) (N : Hp) (γ : List Addr) (F : Hp) (T : XD) : XK := fun cls d H => ∃ γ' F' C dd v g δ, cls = .ref C ∧ d = some dd ∧ γ <+: γ' ∧ Same F F' ∧ RepS K N γ' F' H δ ∧ F' dd = some (.xd [("given", v)]) ∧ RT K γ' F' g v ∧ T C g δ
def spOf (K : PySem.W.Frag) (S : DSp) : Sp := fun vs H Q E => ∃ N γ F δ ds R T, RepS K N γ F H δ ∧ RTs K γ F ds vs ∧ S ds δ R T ∧ (∀ v H', Out K N γ F R v H' → Q v H') ∧ (∀ cls d H', OutX K N γ F T cls d H' → E cls d H')
/-- some things of the store are given up -/
def Kill (δ δ' : Sto) : Prop := δ'.length = δ.length ∧ ∀ (j : Nat) o, δ'[j]? = some (some o) → δ[j]? = some (some o)
theorem Kill.refl {δ : Sto} : Kill δ δ := ⟨rfl, fun _ _ e => e⟩
theorem Kill.trans {δ δ' δ2 : Sto} (h : Kill δ δ') (k : Kill δ' δ2) : Kill δ δ2 := ⟨k.1.trans h.1, fun j o e => h.2 j o (k.2 j o e)⟩
theorem Kill.at {δ : Sto} (i : Nat) : Kill δ (δ.set i none) := ⟨by simp, fun j o e => by
  by_cases hj : i = j
  · subst hj
    rw [List.getElem?_set] at e
    simp at e
  · rw [List.getElem?_set_ne hj] at e; exact e⟩
theorem RepS.kill {K : PySem.W.Frag} {N : Hp} {γ : List Addr} {F H : Hp} {δ δ' : Sto} (h : RepS K N γ F H δ) (k : Kill δ δ') : RepS K N γ F H δ' :=
  ⟨h.sub, h.sub2, h.dis, h.disg, h.len.trans k.1.symm, h.nd, h.live, fun j a d e1 e2 => h.off j a d e1 (k.2 j d e2), fun j a d e1 e2 => h.obj j a d e1 (k.2 j d e2)⟩
/-- what the answer leaves behind in the store may be forgotten -/
structure Harv (n : Nat) (R : RK) (d : D) (δ' : Sto) : Prop where
  ex : ∃ δ0 ε, Kill δ' (δ0 ++ ε) ∧ n ≤ δ0.length ∧ Scoped δ0 ∧ (∀ k, d = .al k → k < δ0.length) ∧ R d δ0
theorem Harv.kill {n : Nat} {R : RK} {d : D} {δ δ' : Sto} (k : Kill δ δ') (h : Harv n R d δ') : Harv n R d δ := by
  obtain ⟨δ0, ε, h1, h2⟩ := h.ex
  exact ⟨δ0, ε, k.trans h1, h2⟩
theorem Harv.here {R : RK} {d : D} {δ : Sto} {n : Nat} (hn : n ≤ δ.length) (sc : Scoped δ) (hd : ∀ k, d = .al k → k < δ.length) (h : R d δ) : Harv n R d δ := ⟨δ, [], by rw [List.append_nil]; exact Kill.refl, hn, sc, hd, h⟩
section
variable {K : PySem.W.Frag} {γ γ' : List Addr} {F F' H N : Hp}
theorem take_pre {n : Nat} (p : γ <+: γ') (h : γ.length ≤ n) : γ <+: γ'.take n := by
  obtain ⟨t, rfl⟩ := p
  rw [List.take_append]
  rw [List.take_of_length_le h]
  exact ⟨_, rfl⟩
theorem Out.harv {R : RK} {v : V} (h : Out K N γ F (Harv γ.length R) v H) : Out K N γ F R v H := by
  obtain ⟨γ', F', d, δ', p, s, r, rv, ⟨δ0, ε, e, hn, sc, hd, q⟩⟩ := h
  exact ⟨γ'.take δ0.length, F', d, δ0, take_pre p hn, s, (r.kill e).forget sc, rv.take hd, q⟩
theorem OutX.harv {T : XD} {cls : Value} {d : Option Addr} (h : OutX K N γ F (fun C => Harv γ.length (T C)) cls d H) : OutX K N γ F T cls d H := by
  obtain ⟨γ', F', C, dd, v, g, δ', e1, e2, p, s, r, hd, rv, ⟨δ0, ε, e, hn, sc, hg, q⟩⟩ := h
  exact ⟨γ'.take δ0.length, F', C, dd, v, g, δ0, e1, e2, take_pre p hn, s, (r.kill e).forget sc, hd, rv.take hg, q⟩
end
/-- a def of the module, its promise; dds: the defaults that a call takes -/
structure FnD (P : Program) (w : World) (K : PySem.W.Frag) (mg : Str → Option Value) (base : Heap) (k : Nat) (x : Str) (ps : List Str) (dds : List D) (S : DSp) : Prop where
  ex : ∃ f fd ds dvs, mg x = some (.ref f) ∧ PySem.W.keepIn K (.ref f) = true ∧ FnOk P w K mg base (L2.CX P w) k f fd ps (spOf K S) ∧ L2.Binds K fd ps ds ∧ Vals dvs ds ∧ ∀ F, Reps K F dds dvs
structure MtD (P : Program) (w : World) (K : PySem.W.Frag) (mg : Str → Option Value) (base : Heap) (k : Nat) (C : Addr) (m : Str) (ps : List Str) (dds : List D) (S : DSp) : Prop where
  ex : ∃ f fd ds dvs, Meth K C m f ∧ FnOk P w K mg base (L2.CX P w) k f fd ps (spOf K S) ∧ L2.Binds K fd ps ds ∧ Vals dvs ds ∧ ∀ F, Reps K F dds dvs
  cl : Cls K C
structure MkD (P : Program) (w : World) (K : PySem.W.Frag) (mg : Str → Option Value) (base : Heap) (k : Nat) (C : Addr) (x : Str) (ps : List Str) (dds : List D) (S : DSp) : Prop where
  mgC : mg x = some (.ref C)
  ex : ∃ f fd ds dvs, Mk K C f ∧ FnOk P w K mg base (L2.CX P w) k f fd ps (spOf K S) ∧ L2.Binds K fd ps ds ∧ Vals dvs ds ∧ ∀ F, Reps K F dds dvs
theorem FnD.mono {P : Program} {w : World} {K : PySem.W.Frag} {mg : Str → Option Value} {base : Heap} {j k : Nat} {x : Str} {ps : List Str} {dds : List D} {S : DSp} (g : FnD P w K mg base j x ps dds S) (h : j ≤ k) : FnD P w K mg base k x ps dds S := by
  obtain ⟨f, fd, ds, dvs, h1, h2, h3, h4⟩ := g.ex
  exact ⟨f, fd, ds, dvs, h1, h2, h3.mono h, h4⟩
/-- the entry's slots -/
def startD (N : List Str) (ds : List D) : En := ds.map some ++ List.replicate (N.length - ds.length) none
theorem repE_start {K : PySem.W.Frag} {γ : List Addr} {F : Hp} {N : List Str} {ds : List D} {vs : List V} (r : RTs K γ F ds vs) : RepE K γ F (L2.start N vs) (startD N ds) := by
  have hl := r.len
  refine ⟨by simp [startD, L2.start, hl], fun i d e => ?_⟩
  unfold startD at e
  unfold L2.start
  by_cases hi : i < ds.length
  · rw [List.getElem?_append_left (by simpa using hi), List.getElem?_map] at e
    cases q : ds[i]? with
    | none => rw [q] at e; cases e
    | some d0 =>
      rw [q] at e
      simp at e
      subst e
      obtain ⟨x, h1, h2⟩ := r.get q
      exact ⟨x, by rw [List.getElem?_append_left (by simpa [hl] using hi), List.getElem?_map, h1]; rfl, h2⟩
  · rw [List.getElem?_append_right (by simpa using hi), List.getElem?_replicate] at e
    split at e <;> cases e
section
variable {P : Program} {w : World} {K : PySem.W.Frag} {mg : Str → Option Value} {base : Heap}
/-- the context of a def's body -/
abbrev bodyX (P : Program) (w : World) (K : PySem.W.Frag) (mg : Str → Option Value) (base : Heap) (N : List Str) (qual : Str) (sc : Scope) (f : Addr) (cdv : Value) (A : Around) (outer : List Env) (s : Shared) (H : Hp) (E : XK) : Cx := cxOf (L2.CX P w) P w K mg base N qual sc f cdv A outer s H E
/-- THE RULE for a def, by its body's statements -/
theorem fn_ok {qual : Str} {params : Arguments} {name : Str} {body : List Stmt} {sc : Scope} {dV kV doc pm cdv ct oc : Value} {an od : Option Addr} {osl : Array (Option Value)} {f : Addr} {N ps : List Str} {k : Nat} {S : DSp}
    (lk : K.lookup f = some ⟨oc, od, .func (PySem.W.fnOf name qual params body sc dV kV doc pm an cdv ct), osl⟩) (hcd : PySem.W.codeIn K cdv qual = true) (SC : FnScope N ps sc) (len : ∀ ds δ R T, S ds δ R T → ds.length = ps.length)
    (hb : ∀ (A : Around) (outer : List Env) (s : Shared) (H : Hp) (E : XK) (Nf : Hp) (γ : List Addr) (F : Hp) (T : XD) (tk : Takes (bodyX P w K mg base N qual sc f cdv A outer s H E) (OutW K Nf γ F fun C g _ δ => T C g δ)) (po : PassesOwn (model P w) (bodyX P w K mg base N qual sc f cdv A outer s H E).A (bodyX P w K mg base N qual sc f cdv A outer s H E).env (bodyX P w K mg base N qual sc f cdv A outer s H E).xe) (ds : List D) (δ : Sto) (R : RK) (T0 : XD),
      T = (fun C => Harv δ.length (T0 C)) → Room k (A.deeper (envOfC qual sc s.heap.objs.size f cdv)) → Scoped δ → S ds δ R T0 →
      WSs ⟨bodyX P w K mg base N qual sc f cdv A outer s H E, γ, F, Nf, fun C g _ δ => T C g δ, tk, po⟩ body (startD N ds) δ ⟨fun _ δ' => Harv δ.length R .non δ', Harv δ.length R, fun _ _ => False, fun _ _ => False⟩) :
    FnOk P w K mg base (L2.CX P w) (k + 1) f (PySem.W.fnOf name qual params body sc dV kV doc pm an cdv ct) ps (spOf K S) := by
  refine fn_of lk hcd SC (fun vs H Q E h => ?_) (fun A outer s H vs Q E hr h => ?_)
  · obtain ⟨Nf, γ, F, δ, ds, R, T, h1, h2, h3, _⟩ := h
    rw [h2.len, len _ _ _ _ h3]
  · obtain ⟨Nf, γ, F, δ, ds, R, T, h1, h2, h3, h4, h5⟩ := h
    have hl := h1.len
    refine ⟨_, pss_sem, ?_⟩
    have tk : Takes (bodyX P w K mg base N qual sc f cdv A outer s H E) (OutW K Nf γ F fun C g _ δ' => Harv δ.length (T C) g δ') :=
      (takes_of (E := E) rfl rfl rfl rfl).imp fun cls d σ H' ⟨γ', F', C, dd, v, g, ρ, δ', e1, e2, p, sm, r, _, hd, rv, q⟩ => h5 _ _ _ (OutX.harv ⟨γ', F', C, dd, v, g, δ', e1, e2, p, sm, r, hd, rv, by rw [hl]; exact q⟩)
    have po : PassesOwn (model P w) (bodyX P w K mg base N qual sc f cdv A outer s H E).A (bodyX P w K mg base N qual sc f cdv A outer s H E).env (bodyX P w K mg base N qual sc f cdv A outer s H E).xe := passes_of rfl
    have B := hb A outer s H E Nf γ F (fun C => Harv δ.length (T C)) tk po ds δ R T rfl hr h1.scoped h3
    refine (B.run (L2.start N vs) γ F H ⟨pre_refl, Same.refl _, h1, repE_start h2⟩).mono ⟨fun σ' H' z => ?_, fun v H' z => ?_, fun σ' H' z => ?_, fun σ' H' z => ?_⟩
    · obtain ⟨γ', F', ρ', δ', p, sm, r, _, q⟩ := z
      exact h4 _ _ (Out.harv ⟨γ', F', .non, δ', p, sm, r, Rep.rt (by rw [Rep]), by rw [hl]; exact q⟩)
    · exact h4 _ _ (Out.harv (by rw [hl]; exact z))
    · obtain ⟨γ', F', ρ', δ', p, sm, r, _, q⟩ := z
      exact q.elim
    · obtain ⟨γ', F', ρ', δ', p, sm, r, _, q⟩ := z
      exact q.elim
end
section
variable {Y : PX} {e a b o : Expr} {es : List Expr} {st : Stmt} {sts : List Stmt} {ρ : En} {δ : Sto} {σ : L2.St} {γ γ' : List Addr} {F F' H H' N : Hp} {pos p apos : Pos} {k : Nat} {x m : Str} {C : Addr} {ps : List Str} {dds : List D} {S : DSp} {Q : D → Sto → Prop}
theorem OutX.outW {T : XT} {cls : Value} {d : Option Addr} (A : At Y γ F H' δ σ ρ) (h : OutX Y.X.K Y.N γ F (fun C g δ' => T C g ρ δ') cls d H) : OutW Y.X.K Y.N Y.γ Y.F T cls d σ H := by
  obtain ⟨γ', F', C, dd, v, g, δ', e1, e2, p, s, r, hd, rv, q⟩ := h
  exact ⟨γ', F', C, dd, v, g, ρ, δ', e1, e2, A.g.trans p, A.f.trans s, r, A.e.mono p s, hd, rv, q⟩
theorem sp_call {vs dvs : List V} {δ1 : Sto} {ds : List D} {γ1 : List Addr} {F1 H1 : Hp} (A1 : At Y γ1 F1 H1 δ1 σ ρ) (r1 : RTs Y.X.K γ1 F1 ds vs) (hd : ∀ F, Reps Y.X.K F dds dvs) (k1 : S (ds ++ dds) δ1 Q fun C g δ' => Y.T C g ρ δ') {R : VK} (hq : ∀ v H', Out Y.X.K Y.N γ1 F1 Q v H' → R v H') :
    spOf Y.X.K S (vs ++ dvs) H1 R (L2.WE (OutW Y.X.K Y.N Y.γ Y.F Y.T) σ) := ⟨Y.N, γ1, F1, δ1, ds ++ dds, Q, _, A1.s, r1.append (hd F1).rt, k1, hq, fun cls d H' z => OutX.outW A1 z⟩
/-- f(e, ..) -/
theorem we_fn (g : FnD Y.X.prog Y.X.w Y.X.K Y.X.mg Y.X.base k x ps dds S) (hr : Room k Y.X.A) (h : WA Y (e :: es) ρ δ fun ds δ1 => S (ds ++ dds) δ1 Q fun C g δ' => Y.T C g ρ δ') (hg : Gl Y.X x := by rfl)
    (hdb : (x == ("__debug__" : Str)) = false := by decide) (he : starEach (e :: es) Y.X.env = (false, eval e Y.X.env) :: starEach es Y.X.env := by rfl) (hpl : (backTo pos (starEach es Y.X.env)).any (·.1) = false := by rfl) : WE Y (.Call (.Name x p) (e :: es) [] pos) ρ δ Q := .mk fun σ γ F H A => by
  obtain ⟨f, fd, ds, dvs, hm, hk, G, hb, hd, hR⟩ := g.ex
  refine t_of (pe_callSD G hr hg hm hk hb hd (fun σ => passAt Y.tk σ) pa_sem hdb he hpl) (h.bind A fun vs H1 γ1 F1 ds δ1 p1 q1 A1 r1 k1 => ?_)
  exact sp_call A1 r1 hR k1 fun v H' z => z.le p1 q1
end
end PV
namespace PV
open PySem PySem.Spec PyProof.Rows L2
/-- the thing that a datum tells: itself, or what stands in the store -/
def res (δ : Sto) : D → D
  | .al j => ((δ[j]?).join).getD .non
  | d => d
theorem res_al {δ : Sto} {j : Nat} {o : D} (h : res δ (.al j) = o) (ho : o ≠ .non) : δ[j]? = some (some o) := by
  change ((δ[j]?).join).getD .non = o at h
  cases e : δ[j]? with
  | none => rw [e] at h; exact absurd h.symm ho
  | some x =>
    cases x with
    | none => rw [e] at h; exact absurd h.symm ho
    | some y => rw [e] at h; simp at h; rw [h]
section
variable {K : PySem.W.Frag} {γ γ' : List Addr} {F F' H H' N : Hp} {δ : Sto} {d : D} {v : V}
theorem RepS.at {j : Nat} {o : D} (h : RepS K N γ F H δ) (e : δ[j]? = some (some o)) : ∃ a, γ[j]? = some a ∧ RepO K γ F H a o ∧ F a = none ∧ N a = none := by
  have hj : j < δ.length := (List.getElem?_eq_some_iff.mp e).1
  obtain ⟨a, ha⟩ : ∃ a, γ[j]? = some a := ⟨_, List.getElem?_eq_getElem (by rw [h.len]; exact hj)⟩
  exact ⟨a, ha, h.obj j a o ha e, h.off j a o ha e⟩
theorem res_ins {C : Addr} {ns : List Str} {ds : List D} (S : RepS K N γ F H δ) (r : RT K γ F d v) (h : res δ d = .ins C ns ds) : ∃ a dx xs, v = .ref a ∧ H a = some (.ins C dx (ns.zip xs)) ∧ ns.length = ds.length ∧ RTs K γ F ds xs := by
  cases d with
  | al j =>
    have e := res_al h (fun z => by cases z)
    obtain ⟨a, ha, ⟨dx, xs, h1, h2, h3⟩, _⟩ := S.at e
    obtain ⟨a', ha', rfl⟩ := r
    rw [ha] at ha'; cases ha'
    exact ⟨a, dx, xs, rfl, h1, h2, h3⟩
  | ins C' ns' ds' =>
    cases h
    have r' : Rep K F _ _ := r
    rw [Rep] at r'
    obtain ⟨a, dx, xs, rfl, h1, h2, h3⟩ := r'
    exact ⟨a, dx, xs, rfl, S.sub _ _ h1, h2, h3.rt⟩
  | _ => cases h
theorem res_lst {ds : List D} (S : RepS K N γ F H δ) (r : RT K γ F d v) (h : res δ d = .lst ds) : ∃ a xs, v = .ref a ∧ SqL K H a xs ∧ RTs K γ F ds xs := by
  cases d with
  | al j =>
    have e := res_al h (fun z => by cases z)
    obtain ⟨a, ha, ⟨xs, h1, h2⟩, _⟩ := S.at e
    obtain ⟨a', ha', rfl⟩ := r
    rw [ha] at ha'; cases ha'
    exact ⟨a, xs, rfl, SqL.of h1, h2⟩
  | lst ds' =>
    cases h
    have r' : Rep K F _ _ := r
    rw [Rep] at r'
    obtain ⟨a, xs, rfl, h1, h3⟩ := r'
    exact ⟨a, xs, rfl, S.sub.seq h1, h3.rt⟩
  | _ => cases h
theorem res_tup {ds : List D} (S : RepS K N γ F H δ) (r : RT K γ F d v) (h : res δ d = .tup ds) : ∃ a xs, v = .ref a ∧ SqT K H a xs ∧ RTs K γ F ds xs ∧ Reps K F ds xs ∧ d = .tup ds := by
  cases d with
  | al j =>
    have e := res_al h (fun z => by cases z)
    obtain ⟨a, ha, z, _⟩ := S.at e
    exact z.elim
  | tup ds' =>
    cases h
    have r' : Rep K F _ _ := r
    rw [Rep] at r'
    obtain ⟨a, xs, rfl, h1, h3⟩ := r'
    exact ⟨a, xs, rfl, SqT.same S.sub h1, h3.rt, h3, rfl⟩
  | _ => cases h
theorem res_dct {ks : List Key} {ds : List D} (S : RepS K N γ F H δ) (r : RT K γ F d v) (h : res δ d = .dct ks ds) : ∃ a xs, v = .ref a ∧ Rd H a (.dK (ks.zip xs)) ∧ ks.length = ds.length ∧ RTs K γ F ds xs := by
  cases d with
  | al j =>
    have e := res_al h (fun z => by cases z)
    obtain ⟨a, ha, ⟨xs, h1, h2, h3⟩, _⟩ := S.at e
    obtain ⟨a', ha', rfl⟩ := r
    rw [ha] at ha'; cases ha'
    exact ⟨a, xs, rfl, .inl h1, h2, h3⟩
  | dct ks' ds' =>
    cases h
    have r' : Rep K F _ _ := r
    rw [Rep] at r'
    obtain ⟨a, od, xs, rfl, h1, h2, h3⟩ := r'
    exact ⟨a, xs, rfl, .inr ⟨od, S.sub _ _ h1⟩, h2, h3.rt⟩
  | _ => cases h
/-! ### fields -/
def look (f : Str) : List Str → List D → Option D
  | n :: ns, d :: ds => if f = n then some d else look f ns ds
  | _, _ => none
theorem look_zip {f : Str} : ∀ {ns : List Str} {ds : List D} {xs : List V} {d : D}, RTs K γ F ds xs → look f ns ds = some d → ∃ x, (ns.zip xs).lookup f = some x ∧ RT K γ F d x
  | [], ds, xs, d, r, h => by simp [look] at h
  | n :: ns, [], xs, d, r, h => by simp [look] at h
  | n :: ns, d0 :: ds, xs, d, ⟨x, t, e, r1, r2⟩, h => by
    subst e
    unfold look at h
    by_cases hf : f = n
    · rw [if_pos hf] at h
      cases h
      exact ⟨x, by subst hf; simp [List.lookup], r1⟩
    · rw [if_neg hf] at h
      obtain ⟨y, h1, h2⟩ := look_zip r2 h
      refine ⟨y, ?_, h2⟩
      simp only [List.zip_cons_cons, List.lookup]
      rw [show (f == n) = false from beq_eq_false_iff_ne.mpr hf]
      exact h1
theorem look_none {f : Str} : ∀ {ns : List Str} {xs : List V}, ns.contains f = false → (ns.zip xs).lookup f = none
  | [], xs, h => by simp
  | n :: ns, [], h => by simp
  | n :: ns, x :: xs, h => by
    rw [List.contains_cons, Bool.or_eq_false_iff] at h
    simp only [List.zip_cons_cons, List.lookup]
    rw [h.1]
    exact look_none h.2
/-- the names and the values behind o.f = d -/
def putNs (f : Str) : List Str → List Str
  | [] => [f]
  | n :: ns => if n = f then n :: ns else n :: putNs f ns
def putDs (f : Str) (d : D) : List Str → List D → List D
  | n :: ns, d0 :: ds => if n = f then d :: ds else d0 :: putDs f d ns ds
  | _, _ => [d]
theorem putF_zip {f : Str} {d : D} {v : V} : ∀ {ns : List Str} {ds : List D} {xs : List V}, ns.length = ds.length → RTs K γ F ds xs → RT K γ F d v → ∃ ys, putF f v (ns.zip xs) = (putNs f ns).zip ys ∧ (putNs f ns).length = (putDs f d ns ds).length ∧ RTs K γ F (putDs f d ns ds) ys
  | [], [], xs, _, r, rv => ⟨[v], rfl, rfl, RTs.cons rv RTs.nil⟩
  | n :: ns, d0 :: ds, xs, hl, ⟨x, t, e, r1, r2⟩, rv => by
    subst e
    unfold putNs putDs
    by_cases h : n = f
    · rw [if_pos h, if_pos h]
      refine ⟨v :: t, ?_, by simpa using hl, RTs.cons rv r2⟩
      show (if n = f then _ else _) = _
      rw [if_pos h]; rfl
    · rw [if_neg h, if_neg h]
      obtain ⟨ys, h1, h2, h3⟩ := putF_zip (f := f) (d := d) (v := v) (ns := ns) (by simpa using hl) r2 rv
      refine ⟨x :: ys, ?_, by simpa using h2, RTs.cons r1 h3⟩
      show (if n = f then _ else (n, x) :: putF f v (ns.zip t)) = _
      rw [if_neg h, h1]; rfl
end
/-- an attribute of an instance: no thing of the class -/
structure Fld (K : PySem.W.Frag) (C : Addr) (f : Str) : Prop where
  cl : Cls K C
  no : NoAttr K C f
section
variable {Y : PX} {e a b o value : Expr} {es : List Expr} {st : Stmt} {sts : List Stmt} {ρ : En} {δ : Sto} {σ : L2.St} {γ γ' : List Addr} {F F' H H' N : Hp} {pos p apos : Pos} {k : Nat} {x m f : Str} {C : Addr} {ps : List Str} {dds : List D} {S : DSp} {Q : D → Sto → Prop}
theorem we_fld (T : Fld Y.X.K C f) (h : WE Y o ρ δ fun d δ1 => ∃ ns ds v, res δ1 d = .ins C ns ds ∧ look f ns ds = some v ∧ Q v δ1) (hb : attributeBase o f Y.X.env (eval o Y.X.env) = eval o Y.X.env := by rfl) : WE Y (.Attribute o f pos) ρ δ Q := .mk fun σ γ F H A => by
  refine t_of (pe_fld pe_sem hb) (h.bind A fun v H1 γ1 F1 d δ1 p1 q1 A1 r1 k1 => ?_)
  obtain ⟨ns, ds, u, e1, e2, q⟩ := k1
  obtain ⟨a, dx, xs, rfl, h1, h2, h3⟩ := res_ins A1.s r1 e1
  obtain ⟨x, h4, h5⟩ := look_zip h3 e2
  exact ⟨a, C, dx, _, x, rfl, h1, T.cl, T.no, h4, γ1, F1, u, δ1, p1, q1, A1.s, h5, q⟩
/-- o.f = e, o in the store -/
theorem ws_fld {T : DE} (t : Fld Y.X.K C f) (h : WE Y value ρ δ fun v δ1 => WE Y o ρ δ1 fun d δ2 => ∃ j ns ds, d = .al j ∧ δ2[j]? = some (some (.ins C ns ds)) ∧ ns.length < 1000 ∧ T.nx ρ (δ2.set j (some (.ins C (putNs f ns) (putDs f v ns ds)))))
    (hs : swapsWith value (some (.Attribute o f p)) pos.line Y.X.env = pure false := by rfl) : WS Y (.Assign [.Attribute o f p] value pos) ρ δ T := .mk fun σ γ F H A => by
  refine s_of (ps_fld pe_sem pe_sem hs) (h.bind A fun v H1 γ1 F1 d δ1 p1 q1 A1 r1 k1 => k1.bind A1 fun u H2 γ2 F2 d2 δ2 p2 q2 A2 r2 k2 => ?_)
  obtain ⟨j, ns, ds, rfl, e, hl, q⟩ := k2
  obtain ⟨a, ha, ⟨dx, xs, h1, h2, h3⟩, _⟩ := A2.s.at e
  obtain ⟨a', ha', rfl⟩ := r2
  rw [ha] at ha'; cases ha'
  obtain ⟨ys, g1, g2, g3⟩ := putF_zip (f := f) h2 h3 (r1.mono p2 q2)
  refine ⟨a, C, dx, _, rfl, h1, t.cl, t.no, ?_, ?_⟩
  · rw [List.length_zip, h3.len]; omega
  · rw [g1]
    have S := A2.s.put (o := .ins C dx ((putNs f ns).zip ys)) (d := .ins C (putNs f ns) (putDs f d ns ds)) ha e ⟨dx, ys, upd_same, g2, g3⟩
    exact ⟨γ2, F2, ρ, _, p1.trans p2, q1.trans q2, S, A2.e, q⟩
/-! ### methods -/
theorem we_mt {pl : Sem Bool} (g : MtD Y.X.prog Y.X.w Y.X.K Y.X.mg Y.X.base k C m ps dds S) (hr : Room k Y.X.A) (h : WE Y o ρ δ fun d δ1 => ∃ ns ds, res δ1 d = .ins C ns ds ∧ ns.contains m = false ∧ WA Y (e :: es) ρ δ1 fun as δ2 => S (d :: (as ++ dds)) δ2 Q fun C g δ' => Y.T C g ρ δ')
    (hst : starEach (e :: es) Y.X.env = (false, eval e Y.X.env) :: starEach es Y.X.env := by rfl) (hpl : (backTo pos (starEach es Y.X.env)).any (·.1) = false := by rfl)
    (ht : eval (.Call (.Attribute o m apos) (e :: es) [] pos) Y.X.env = (do
      let ov ← eval o Y.X.env
      standAt apos.atName
      let (f, first) ← holding [ov] (getMethod ov m pl)
      callWith pos f first (backTo pos (starEach (e :: es) Y.X.env)) (backToKw pos (keywordEach [] Y.X.env))) := by rfl) : WE Y (.Call (.Attribute o m apos) (e :: es) [] pos) ρ δ Q := .mk fun σ γ F H A pins s I => by
  obtain ⟨f, fd, ds, dvs, hm, G, hb, hd, hR⟩ := g.ex
  refine PySem.W.methodCall_KW (pl := pl) (thn (h.run σ γ F H A pins s I) fun u s1 ⟨x, H1, I1, rx, γ1, F1, d1, δ1, p1, q1, S1, R1, ns, ds1, e1, e2, k1⟩ => ?_) ht
  have A1 := A.next p1 q1 S1
  obtain ⟨a, dx, xs, rfl, h1, h2, h3⟩ := res_ins S1 R1 e1
  obtain rfl : u = Value.ref a := rx
  refine getmeth_ok I1 h1 g.cl hm (look_none e2) ?_
  refine PySem.W.callWith_K (first := [.ref a]) (h₀ := Y.X.base) I.ok.mod.kin hm.kp (thn (k1.run σ γ1 F1 H1 A1 pos pins s1 I1) fun us s2 ⟨vs, H2, I2, rv, γ2, F2, as, δ2, p2, q2, S2, R2, k2⟩ => ⟨I2.kIn, ?_⟩) hst hpl
  refine run_fnSD (E := L2.WE (OutW Y.X.K Y.N Y.γ Y.F Y.T)) (us := .ref a :: us) (vs := .ref a :: vs) (dvs := dvs) (ds := ds) G hr hb hd (passAt Y.tk σ) I2 (.cons rfl rv) ?_
  exact sp_call (vs := .ref a :: vs) (ds := d1 :: as) (A1.next p2 q2 S2) (RTs.cons (R1.mono p2 q2) R2) hR k2 fun v H' z => z.le (p1.trans p2) (q1.trans q2)
theorem we_mt0 {pl : Sem Bool} (g : MtD Y.X.prog Y.X.w Y.X.K Y.X.mg Y.X.base k C m ps dds S) (hr : Room k Y.X.A) (h : WE Y o ρ δ fun d δ1 => ∃ ns ds, res δ1 d = .ins C ns ds ∧ ns.contains m = false ∧ S (d :: dds) δ1 Q fun C g δ' => Y.T C g ρ δ')
    (ht : eval (.Call (.Attribute o m apos) [] [] pos) Y.X.env = (do
      let ov ← eval o Y.X.env
      standAt apos.atName
      let (f, first) ← holding [ov] (getMethod ov m pl)
      callWith pos f first (backTo pos (starEach [] Y.X.env)) (backToKw pos (keywordEach [] Y.X.env))) := by rfl) : WE Y (.Call (.Attribute o m apos) [] [] pos) ρ δ Q := .mk fun σ γ F H A pins s I => by
  obtain ⟨f, fd, ds, dvs, hm, G, hb, hd, hR⟩ := g.ex
  refine PySem.W.methodCall_KW (pl := pl) (thn (h.run σ γ F H A pins s I) fun u s1 ⟨x, H1, I1, rx, γ1, F1, d1, δ1, p1, q1, S1, R1, ns, ds1, e1, e2, k1⟩ => ?_) ht
  have A1 := A.next p1 q1 S1
  obtain ⟨a, dx, xs, rfl, h1, h2, h3⟩ := res_ins S1 R1 e1
  obtain rfl : u = Value.ref a := rx
  refine getmeth_ok I1 h1 g.cl hm (look_none e2) ?_
  refine PySem.W.callWith_K0 (first := [.ref a]) I1.kIn hm.kp ?_
  refine run_fnSD (E := L2.WE (OutW Y.X.K Y.N Y.γ Y.F Y.T)) (us := [.ref a]) (vs := [.ref a]) (dvs := dvs) (ds := ds) G hr hb hd (passAt Y.tk σ) I1 (.cons rfl .nil) ?_
  exact sp_call (vs := [.ref a]) (ds := [d1]) A1 (RTs.cons R1 RTs.nil) hR k1 fun v H' z => z.le p1 q1
theorem we_fn0 (g : FnD Y.X.prog Y.X.w Y.X.K Y.X.mg Y.X.base k x ps dds S) (hr : Room k Y.X.A) (h : S dds δ Q fun C g δ' => Y.T C g ρ δ') (hg : Gl Y.X x := by rfl)
    (hdb : (x == ("__debug__" : Str)) = false := by decide) : WE Y (.Call (.Name x p) [] [] pos) ρ δ Q := .mk fun σ γ F H A pins s I => by
  obtain ⟨f, fd, ds, dvs, hm, hk, G, hb, hd, hR⟩ := g.ex
  refine wpAny_Call_Name_kw (ld_glob I hg hm ?_ hdb)
  refine PySem.W.callWith_K0 I.kIn hk ?_
  refine run_fnSD (E := L2.WE (OutW Y.X.K Y.N Y.γ Y.F Y.T)) (us := []) (vs := []) (dvs := dvs) (ds := ds) G hr hb hd (passAt Y.tk σ) I .nil ?_
  exact sp_call (vs := []) (ds := []) A RTs.nil hR h fun v H' z => z
/-! ### C(e, ..) -/
theorem run_mk {CX : CXT} {fI : Addr} {fd : FuncData} {ds : List Value} {dvs : List V} {sp : Sp} {E : XK} {pins : List (Addr × Obj)} {s : Shared} {R : VK} {us : List Value} {vs : List V} (M : Mk Y.X.K C fI) (G : FnOk Y.X.prog Y.X.w Y.X.K Y.X.mg Y.X.base CX k fI fd ps sp) (hr : Room (k + 1) Y.X.A) (hb : L2.Binds Y.X.K fd ps ds) (hd : Vals dvs ds)
    (hx : PassesAt CX Y.X σ E) (I : L2.Inv Y.X pins σ H s) (r : Vals vs us)
    (h : ∀ x dx, H x = none → H dx = none → dx ≠ x → sp (.ref x :: (vs ++ dvs)) (upd (upd H dx (.own x)) x (.ins C dx [])) (fun v H2 => v = .non ∧ R (.ref x) H2) E) :
    wpAny (model Y.X.prog Y.X.w) Y.X.A (call (.ref C) us) (EP Y.X pins σ R) Y.X.xe s := by
  have hq := h (s.heap.objs.size + 1) s.heap.objs.size (I.hok.fresh (Nat.le_succ _)) (I.hok.fresh (Nat.le_refl _)) (Nat.ne_of_lt (Nat.lt_succ_self _))
  have I2 := L2.Inv.made (C := C) I
  have r2 : Vals (V.ref (s.heap.objs.size + 1) :: (vs ++ dvs)) (Value.ref (s.heap.objs.size + 1) :: (us ++ ds)) := .cons rfl (r.append hd)
  have hl : (Value.ref (s.heap.objs.size + 1) :: us ++ ds).length = ps.length := by
    have e := r2.length
    rw [G.len _ _ _ _ hq] at e
    exact e.symm
  refine wpAny_call (make_map (f := fI) I.kIn M.makes M.init (beq_iff_eq.mp M.fn) (codeAny_mono (G.run _ Y.X.stack _ _ ⟨Value.ref (s.heap.objs.size + 1) :: us, []⟩ (Value.ref (s.heap.objs.size + 1) :: (us ++ ds)) _ _ E (hr.make C us [])
    (I2.env0.make C us []) (hb _ (Value.ref (s.heap.objs.size + 1) :: us) I2.kIn hl) r2 hq) fun r s' hq' => ?_))
  cases r with
  | error e => exact hx pins _ _ e s' I2 hq'
  | ok fl =>
    cases fl with
    | ret u =>
      obtain ⟨v, H', I3, rv, ev, q3⟩ := I2.after hq'
      subst ev
      exact ⟨rv, ⟨V.ref (s.heap.objs.size + 1), H', I3, rfl, q3⟩⟩
    | next => exact False.elim hq'
    | brk => exact False.elim hq'
    | cont => exact False.elim hq'
/-- the new instance, over data -/
theorem sp_new {vs dvs : List V} {δ1 : Sto} {ds : List D} {γ1 : List Addr} {F1 H1 : Hp} (A1 : At Y γ1 F1 H1 δ1 σ ρ) (r1 : RTs Y.X.K γ1 F1 ds vs) (hd : ∀ F, Reps Y.X.K F dds dvs)
    (k1 : S (.al δ1.length :: (ds ++ dds)) (δ1 ++ [some (.ins C [] [])]) (fun r δ2 => r = .non ∧ Q (.al δ1.length) δ2) fun C g δ' => Y.T C g ρ δ') {R : VK} (hq : ∀ v H', Out Y.X.K Y.N γ1 F1 Q v H' → R v H') :
    ∀ x dx, H1 x = none → H1 dx = none → dx ≠ x → spOf Y.X.K S (.ref x :: (vs ++ dvs)) (upd (upd H1 dx (.own x)) x (.ins C dx [])) (fun v H2 => v = .non ∧ R (.ref x) H2) (L2.WE (OutW Y.X.K Y.N Y.γ Y.F Y.T) σ) := fun x dx hx hdx ne => by
  obtain ⟨S1, sm⟩ := A1.s.frozen (o := .own x) hdx
  have px : γ1 <+: γ1 ++ [x] := ⟨[x], rfl⟩
  have S2 := S1.made (p := x) (o := .ins C dx []) (d := .ins C [] []) (by rw [upd_ne (Ne.symm ne)]; exact hx) ⟨dx, [], upd_same, rfl, RTs.nil⟩
  have A2 : At Y (γ1 ++ [x]) (upd F1 dx (.own x)) (upd (upd H1 dx (.own x)) x (.ins C dx [])) (δ1 ++ [some (.ins C [] [])]) σ ρ := A1.next px sm S2
  refine ⟨Y.N, γ1 ++ [x], _, _, .al δ1.length :: (ds ++ dds), _, _, S2, RTs.cons ⟨x, by rw [← A1.s.len]; exact get_last, rfl⟩ ((r1.mono px sm).append (hd _).rt), k1, fun v H' z => ?_, fun cls d H' z => OutX.outW A2 z⟩
  obtain ⟨γ3, F3, d3, δ3, p3, q3, S3, R3, e3, k3⟩ := z
  subst e3
  have R3' : Rep Y.X.K F3 .non v := R3
  rw [Rep] at R3'
  refine ⟨R3', hq _ _ ⟨γ3, F3, .al δ1.length, δ3, px.trans p3, sm.trans q3, S3, ⟨x, pre_get p3 (by rw [← A1.s.len]; exact get_last), rfl⟩, k3⟩⟩
theorem we_new (g : MkD Y.X.prog Y.X.w Y.X.K Y.X.mg Y.X.base k C x ps dds S) (hr : Room (k + 1) Y.X.A) (h : WA Y (e :: es) ρ δ fun as δ1 => S (.al δ1.length :: (as ++ dds)) (δ1 ++ [some (.ins C [] [])]) (fun r δ2 => r = .non ∧ Q (.al δ1.length) δ2) fun C g δ' => Y.T C g ρ δ')
    (hg : Gl Y.X x := by rfl) (hdb : (x == ("__debug__" : Str)) = false := by decide) (he : starEach (e :: es) Y.X.env = (false, eval e Y.X.env) :: starEach es Y.X.env := by rfl) (hpl : (backTo pos (starEach es Y.X.env)).any (·.1) = false := by rfl) : WE Y (.Call (.Name x p) (e :: es) [] pos) ρ δ Q := .mk fun σ γ F H A pins s I => by
  obtain ⟨f, fd, ds, dvs, M, G, hb, hd, hR⟩ := g.ex
  refine wpAny_Call_Name_kw (ld_glob I hg g.mgC ?_ hdb)
  refine PySem.W.callWith_K (h₀ := Y.X.base) I.ok.mod.kin M.kp (thn (h.run σ γ F H A pos pins s I) fun us s1 ⟨vs, H1, I1, rv, γ1, F1, as, δ1, p1, q1, S1, R1, k1⟩ => ⟨I1.kIn, ?_⟩) he hpl
  exact run_mk M G hr hb hd (passAt Y.tk σ) I1 rv (sp_new (A.next p1 q1 S1) R1 hR k1 fun v H' z => z.le p1 q1)
theorem we_new0 (g : MkD Y.X.prog Y.X.w Y.X.K Y.X.mg Y.X.base k C x ps dds S) (hr : Room (k + 1) Y.X.A) (h : S (.al δ.length :: dds) (δ ++ [some (.ins C [] [])]) (fun r δ2 => r = .non ∧ Q (.al δ.length) δ2) fun C g δ' => Y.T C g ρ δ')
    (hg : Gl Y.X x := by rfl) (hdb : (x == ("__debug__" : Str)) = false := by decide) : WE Y (.Call (.Name x p) [] [] pos) ρ δ Q := .mk fun σ γ F H A pins s I => by
  obtain ⟨f, fd, ds, dvs, M, G, hb, hd, hR⟩ := g.ex
  refine wpAny_Call_Name_kw (ld_glob I hg g.mgC ?_ hdb)
  refine PySem.W.callWith_K0 I.kIn M.kp ?_
  exact run_mk (us := []) M G hr hb hd (passAt Y.tk σ) I .nil (sp_new (ds := []) A RTs.nil hR h fun v H' z => z)
/-! ### freezing -/
/-- the thing of the store that e tells is frozen -/
theorem we_fz (h : WE Y e ρ δ fun d δ1 => ∃ j o, d = .al j ∧ δ1[j]? = some (some o) ∧ (match o with | .lst ds => noAl ds = true | .ins _ _ ds => noAl ds = true | .dct _ ds => noAl ds = true | _ => False) ∧ Q o (δ1.set j none)) : WE Y e ρ δ Q := .mk fun σ γ F H A pins s I => by
  refine thn (h.run σ γ F H A pins s I) fun u s1 ⟨x, H1, I1, rx, γ1, F1, d1, δ1, p1, q1, S1, R1, j, o, e1, e2, n, k1⟩ => ?_
  subst e1
  obtain ⟨a, ha, ho, hF, hN⟩ := S1.at e2
  obtain ⟨a', ha', rfl⟩ := R1
  rw [ha] at ha'; cases ha'
  cases o with
  | lst ds =>
    obtain ⟨xs, h1, h2⟩ := ho
    obtain ⟨S2, sm⟩ := S1.freeze ha h1 hF hN
    exact ⟨_, H1, I1, rx, γ1, _, _, _, p1, q1.trans sm, S2, Rep.rt (by rw [Rep]; exact ⟨a, xs, rfl, SqL.of upd_same, Reps.mono sm _ (h2.reps n)⟩), k1⟩
  | ins C ns ds =>
    obtain ⟨dx, xs, h1, h2, h3⟩ := ho
    obtain ⟨S2, sm⟩ := S1.freeze ha h1 hF hN
    exact ⟨_, H1, I1, rx, γ1, _, _, _, p1, q1.trans sm, S2, Rep.rt (by rw [Rep]; exact ⟨a, dx, xs, rfl, upd_same, h2, Reps.mono sm _ (h3.reps n)⟩), k1⟩
  | dct ks ds =>
    obtain ⟨xs, h1, h2, h3⟩ := ho
    obtain ⟨od, I2⟩ := I1.lock h1 trivial
    have S1' : RepS Y.X.K Y.N γ1 F1 (upd H1 a (.frz od (.dK (ks.zip xs)))) (δ1.set j none) := by
      refine ⟨fun b u e => ?_, fun b u e => by rw [upd_ne (ne_of_none e hN)]; exact S1.sub2 _ _ e, S1.dis, S1.disg, by simpa using S1.len, S1.nd, fun b hb => ?_, fun i b d' e1 e2 => ?_, fun i b d' e1 e2 => ?_⟩
      · rw [upd_ne (ne_of_none e hF)]; exact S1.sub _ _ e
      · by_cases hba : b = a
        · subst hba; exact ⟨_, upd_same⟩
        · obtain ⟨q, e⟩ := S1.live b hb
          exact ⟨q, by rw [upd_ne hba]; exact e⟩
      · by_cases hi : i = j
        · subst hi; rw [List.getElem?_set] at e2; simp at e2
        · rw [List.getElem?_set_ne (Ne.symm hi)] at e2
          exact S1.off i b d' e1 e2
      · by_cases hi : i = j
        · subst hi; rw [List.getElem?_set] at e2; simp at e2
        · rw [List.getElem?_set_ne (Ne.symm hi)] at e2
          have : b ≠ a := fun z => hi (nd_ix S1.nd (z ▸ e1) ha)
          exact (S1.obj i b d' e1 e2).mono pre_refl (Same.refl _) (upd_ne this)
    obtain ⟨S2, sm⟩ := S1'.freeze (j := j) (o := .frz od (.dK (ks.zip xs))) ha upd_same hF hN
    rw [List.set_set] at S2
    exact ⟨_, _, I2, rx, γ1, _, _, _, p1, q1.trans sm, S2, Rep.rt (by rw [Rep]; exact ⟨a, od, xs, rfl, upd_same, h2, Reps.mono sm _ (h3.reps n)⟩), k1⟩
  | _ => exact n.elim
end
end PV
namespace PV
open PySem PySem.Spec PyProof.Rows L2
section
variable {Y : PX} {e a b o value tg iter : Expr} {es : List Expr} {st : Stmt} {sts body : List Stmt} {ρ : En} {δ : Sto} {σ : L2.St} {γ γ' : List Addr} {F F' H H' N : Hp} {pos p apos : Pos} {k : Nat} {x m f : Str} {C : Addr} {ps : List Str} {dds : List D} {S : DSp} {Q : D → Sto → Prop}
theorem we_harv (h : WE Y e ρ δ (Harv δ.length Q)) : WE Y e ρ δ Q := .mk fun σ γ F H A => (h.run σ γ F H A).mono fun v H' z => Out.harv (by rw [A.s.len]; exact z)
/-- what stands behind in the store is forgotten -/
theorem we_drop (h : WE Y e ρ δ fun d δ1 => ∃ ε, δ1 = δ ++ ε ∧ d.isAl = false ∧ Q d δ) : WE Y e ρ δ Q := .mk fun σ γ F H A => (h.run σ γ F H A).mono fun v H' ⟨γ', F', d, δ', p, s, r, rv, ε, e, hd, q⟩ =>
  Out.harv (by rw [A.s.len]; exact ⟨γ', F', d, δ', p, s, r, rv, ⟨δ, ε, e ▸ Kill.refl, Nat.le_refl _, A.s.scoped, (fun k z => by rw [z] at hd; cases hd), q⟩⟩)
/-! ### a class whose new instances are frozen -/
structure NwD (P : Program) (w : World) (K : PySem.W.Frag) (mg : Str → Option Value) (base : Heap) (k : Nat) (C : Addr) (x : Str) (S : DSp) : Prop where
  mgC : mg x = some (.ref C)
  kp : PySem.W.keepIn K (.ref C) = true
  run : ∀ (Y : PX), Y.X.prog = P → Y.X.w = w → Y.X.K = K → Y.X.mg = mg → Y.X.base = base → Room k Y.X.A → ∀ ρ as δ Q, S as δ Q (fun C g δ' => Y.T C g ρ δ') → CallD Y ρ (.ref C) as δ Q
/-- a new instance, frozen at once -/
theorem nw_call {S : DSp} {as : List D} (g : MkD Y.X.prog Y.X.w Y.X.K Y.X.mg Y.X.base k C x ps dds S) (hr : Room (k + 1) Y.X.A)
    (h : Scoped δ → S (.al δ.length :: (as ++ dds)) (δ ++ [some (.ins C [] [])]) (fun r δ2 => r = .non ∧ ∃ ns vs ε, δ2 = δ ++ some (.ins C ns vs) :: ε ∧ noAl vs = true ∧ Q (.ins C ns vs) δ) fun C => Harv δ.length fun g δ' => Y.T C g ρ δ') : CallD Y ρ (.ref C) as δ Q := .mk fun pins s σ γ F H xs us I A R V => by
  obtain ⟨f, fd, ds, dvs, M, G, hb, hd, hR⟩ := g.ex
  refine run_mk M G hr hb hd (passAt Y.tk σ) I V fun x dx hx hdx ne => ?_
  obtain ⟨S1, sm⟩ := A.s.frozen (o := .own x) hdx
  have px : γ <+: γ ++ [x] := ⟨[x], rfl⟩
  have S2 := S1.made (p := x) (o := .ins C dx []) (d := .ins C [] []) (by rw [upd_ne (Ne.symm ne)]; exact hx) ⟨dx, [], upd_same, rfl, RTs.nil⟩
  have hl := A.s.len
  refine ⟨Y.N, γ ++ [x], _, _, .al δ.length :: (as ++ dds), _, _, S2, RTs.cons ⟨x, by rw [← A.s.len]; exact get_last, rfl⟩ ((R.mono px sm).append (hR _).rt), h A.s.scoped, fun v H' z => ?_, fun cls d H' z => ?_⟩
  · obtain ⟨γ3, F3, d3, δ3, p3, q3, S3, R3, e3, ns, vs, ε, e4, n4, k4⟩ := z
    subst e3
    have R3' : Rep Y.X.K F3 .non v := R3
    rw [Rep] at R3'
    subst e4
    have ha : γ3[δ.length]? = some x := pre_get p3 (by rw [← A.s.len]; exact get_last)
    have hj : (δ ++ some (.ins C ns vs) :: ε)[δ.length]? = some (some (.ins C ns vs)) := by rw [List.getElem?_append_right (Nat.le_refl _), Nat.sub_self]; rfl
    obtain ⟨a, ha', ⟨dx', xs', h1, h2, h3⟩, hF, hN⟩ := S3.at hj
    rw [ha] at ha'; cases ha'
    obtain ⟨S4, sm4⟩ := S3.freeze ha h1 hF hN
    refine ⟨R3', Out.harv ⟨γ3, _, .ins C ns vs, _, px.trans p3, sm.trans (q3.trans sm4), S4, Rep.rt (by rw [Rep]; exact ⟨x, dx', xs', rfl, upd_same, h2, Reps.mono sm4 _ (h3.reps n4)⟩), ⟨δ, none :: ε, ?_, by rw [A.s.len]; exact Nat.le_refl _, A.s.scoped, (fun k z => nomatch z), k4⟩⟩⟩
    rw [List.set_append_right _ _ (Nat.le_refl _), Nat.sub_self]; exact Kill.refl
  · obtain ⟨γ', F', C', dd, v, g', δ', e1, e2, p', s', r', hd', rv', ⟨δ0, ε, e, hn, sc, hg, q⟩⟩ := z
    have pp : γ <+: γ'.take δ0.length := take_pre (px.trans p') (by rw [hl]; exact hn)
    exact ⟨γ'.take δ0.length, F', C', dd, v, g', ρ, δ0, e1, e2, A.g.trans pp, A.f.trans (sm.trans s'), (r'.kill e).forget sc, A.e.mono pp (sm.trans s'), hd', rv'.take hg, q⟩
theorem we_nw {S : DSp} (g : NwD Y.X.prog Y.X.w Y.X.K Y.X.mg Y.X.base k C x S) (hr : Room k Y.X.A) (h : WA Y (e :: es) ρ δ fun as δ1 => S as δ1 Q fun C g δ' => Y.T C g ρ δ')
    (hg : Gl Y.X x := by rfl) (hdb : (x == ("__debug__" : Str)) = false := by decide) (he : starEach (e :: es) Y.X.env = (false, eval e Y.X.env) :: starEach es Y.X.env := by rfl) (hpl : (backTo pos (starEach es Y.X.env)).any (·.1) = false := by rfl) : WE Y (.Call (.Name x p) (e :: es) [] pos) ρ δ Q := .mk fun σ γ F H A pins s I => by
  refine wpAny_Call_Name_kw (ld_glob I hg g.mgC ?_ hdb)
  refine PySem.W.callWith_K (h₀ := Y.X.base) I.ok.mod.kin g.kp (thn (h.run σ γ F H A pos pins s I) fun us s1 ⟨vs, H1, I1, rv, γ1, F1, as, δ1, p1, q1, S1, R1, k1⟩ => ⟨I1.kIn, ?_⟩) he hpl
  exact thn ((g.run Y rfl rfl rfl rfl rfl hr ρ as δ1 Q k1).run pins s1 σ γ1 F1 H1 vs us I1 (A.next p1 q1 S1) R1 rv) fun _ _ z => EP.le p1 q1 z
/-! ### while -/
theorem ws_while {c : Expr} {T : DE} (inv : Nat → En → Sto → Prop) (h0 : ∃ m, inv m ρ δ)
    (turn : ∀ m ρ' δ', inv m ρ' δ' → WT Y c ρ' δ' fun b δ1 => (b = true → WSs Y body ρ' δ1 ⟨fun ρ2 δ2 => ∃ m', m' < m ∧ inv m' ρ2 δ2, T.rt, T.nx, fun ρ2 δ2 => ∃ m', m' < m ∧ inv m' ρ2 δ2⟩) ∧ (b = false → T.nx ρ' δ1)) : WS Y (.While c body [] pos) ρ δ T := .mk fun σ γ F H A => by
  refine s_of (ps_while Y.po pt_sem pss_sem) ?_
  obtain ⟨m0, i0⟩ := h0
  refine ⟨fun m σ' H' => OutS Y.X.K Y.N γ F (inv m) σ' H', ⟨m0, OutS.here A.s A.e i0⟩, fun m σ' H' z => ?_⟩
  obtain ⟨γ1, F1, ρ1, δ1, p1, q1, S1, E1, k1⟩ := z
  have A1 : At Y γ1 F1 H' δ1 σ' ρ1 := ⟨A.g.trans p1, A.f.trans q1, S1, E1⟩
  refine (turn m ρ1 δ1 k1).bind A1 fun b H2 γ2 F2 δ2 p2 q2 A2 k2 => ?_
  cases b with
  | true =>
    rw [if_pos rfl]
    refine ⟨OutS Y.X.K Y.N γ F fun ρ2 δ2 => ∃ m', m' < m ∧ inv m' ρ2 δ2, fun σ3 H3 ⟨γ3, F3, ρ3, δ3, p3, q3, S3, E3, m', hm, i3⟩ => ⟨m', hm, γ3, F3, ρ3, δ3, p3, q3, S3, E3, i3⟩, ?_⟩
    exact ((k2.1 rfl).run σ' γ2 F2 H2 A2).mono ⟨fun _ _ z => z.le (p1.trans p2) (q1.trans q2), fun _ _ z => z.le (p1.trans p2) (q1.trans q2), fun _ _ z => z.le (p1.trans p2) (q1.trans q2), fun _ _ z => z.le (p1.trans p2) (q1.trans q2)⟩
  | false =>
    rw [if_neg Bool.false_ne_true]
    exact OutS.le (p1.trans p2) (q1.trans q2) (OutS.here A2.s A2.e (k2.2 rfl))
/-! ### what is walked -/
def Yld (K : PySem.W.Frag) (N : Hp) (J : It) (ds : List D) (γ1 : List Addr) (F1 : Hp) (Cd : Sto → Prop) : Prop := ∀ γ' F' H' δ', γ1 <+: γ' → Same F1 F' → RepS K N γ' F' H' δ' → Cd δ' →
  (∀ i, i < ds.length → J.go i H') ∧ J.stop ds.length H' ∧ ∀ (i : Nat) x H'', i < ds.length → J.yld i H' x H'' → ∃ F'' d, ds[i]? = some d ∧ Same F' F'' ∧ RepS K N γ' F'' H'' δ' ∧ RT K γ' F'' d x
def OutI (K : PySem.W.Frag) (N : Hp) (γ : List Addr) (F : Hp) (R : List D → (Sto → Prop) → Sto → Prop) : It → Hp → Prop := fun J H1 => ∃ γ1 F1 ds Cd δ1, γ <+: γ1 ∧ Same F F1 ∧ RepS K N γ1 F1 H1 δ1 ∧ (∀ N', Same N N' → (∃ H', Same N' H') → Yld K N' J ds γ1 F1 Cd) ∧ R ds Cd δ1
/-- the data that are walked, and what must stay so in the store -/
structure WI (Y : PX) (tg iter : Expr) (ρ : En) (δ : Sto) (R : List D → (Sto → Prop) → Sto → Prop) : Prop where
  run : ∀ σ γ F H, At Y γ F H δ σ ρ → iSem Y.X tg iter σ H (OutI Y.X.K Y.N γ F R)
theorem ws_for {T : DE} (hc : Y.X.calm = true) (h : WI Y tg iter ρ δ fun ds Cd δ1 => ∃ inv : Nat → En → Sto → Prop, inv 0 ρ δ1 ∧ (∀ i ρ' δ', i ≤ ds.length → inv i ρ' δ' → Cd δ') ∧
      (∀ (i : Nat) d ρ' δ', ds[i]? = some d → inv i ρ' δ' → WG Y tg d ρ' δ' fun ρ2 δ2 => WSs Y body ρ2 δ2 ⟨inv (i + 1), T.rt, T.nx, inv (i + 1)⟩) ∧ (∀ ρ' δ', inv ds.length ρ' δ' → T.nx ρ' δ'))
    (hs : ∀ x, foldedSetIterable iter Y.X.env x = pure x := by intro _; rfl) : WS Y (.For tg iter body [] pos) ρ δ T := .mk fun σ γ F H A => by
  refine s_of (ps_for Y.po hc pi_sem pg_sem pss_sem hs) ?_
  refine (h.run σ γ F H A).mono fun J H1 ⟨γ1, F1, ds, Cd, δ1, p1, q1, S1, yl, inv, i0, hC, turn, fin⟩ => ?_
  have yl := yl Y.N (Same.refl _) ⟨H1, S1.sub2⟩
  refine ⟨fun i m σ' H' => m = ds.length - i ∧ i ≤ ds.length ∧ OutS Y.X.K Y.N γ1 F1 (inv i) σ' H', ⟨_, rfl, Nat.zero_le _, OutS.here S1 (A.e.mono p1 q1) i0⟩, fun i m σ' H' ⟨em, hi, γ2, F2, ρ2, δ2, p2, q2, S2, E2, k2⟩ => ?_⟩
  subst em
  obtain ⟨go, stop, yld⟩ := yl γ2 F2 H' δ2 p2 q2 S2 (hC i ρ2 δ2 hi k2)
  by_cases hlt : i < ds.length
  · refine .inr ⟨go i hlt, OutS Y.X.K Y.N γ1 F1 (inv (i + 1)), fun σ3 H3 z => ⟨ds.length - (i + 1), by omega, rfl, hlt, z⟩, fun x H3 hy => ?_⟩
    obtain ⟨F3, d, hd, q3, S3, R3⟩ := yld i x H3 hlt hy
    have A3 : At Y γ2 F3 H3 δ2 σ' ρ2 := ⟨A.g.trans (p1.trans p2), A.f.trans (q1.trans (q2.trans q3)), S3, E2.mono pre_refl q3⟩
    refine ((turn i d ρ2 δ2 hd k2).run σ' γ2 F3 H3 x A3 R3).mono fun σ4 H4 ⟨γ4, F4, ρ4, δ4, p4, q4, S4, E4, k4⟩ => ?_
    refine (k4.run σ4 γ4 F4 H4 ⟨A3.g.trans p4, A3.f.trans q4, S4, E4⟩).mono ⟨fun _ _ z => z.le (p2.trans p4) ((q2.trans q3).trans q4), fun _ _ z => z.le (p1.trans (p2.trans p4)) (q1.trans ((q2.trans q3).trans q4)), fun _ _ z => z.le (p1.trans (p2.trans p4)) (q1.trans ((q2.trans q3).trans q4)), fun _ _ z => z.le (p2.trans p4) ((q2.trans q3).trans q4)⟩
  · have e : i = ds.length := by omega
    subst e
    exact .inl ⟨stop, OutS.le (p1.trans p2) (q1.trans q2) (OutS.here S2 E2 (fin ρ2 δ2 k2))⟩
/-- over a list -/
theorem wi_list {R : List D → (Sto → Prop) → Sto → Prop} (h : WE Y iter ρ δ fun d δ1 => ∃ ds, res δ1 d = .lst ds ∧ (ds.length ≤ sizeLine → R ds (fun δ' => res δ' d = .lst ds) δ1)) : WI Y tg iter ρ δ R := .mk fun σ γ F H A pins s I => by
  refine thn (h.run σ γ F H A pins s I) fun v s1 ⟨x, H1, I1, rx, γ1, F1, d1, δ1, p1, q1, S1, R1, ds, e1, k1⟩ => ?_
  obtain ⟨a, xs, rfl, h1, h2⟩ := res_lst S1 R1 e1
  cases rx
  obtain ⟨its, rv, pl, hz⟩ := I1.list h1
  refine wpAny_pyIter_list pl.isList ?_
  refine ⟨s1.heap.objs.size, [s1.heap.objs.size], _, _, H1, rfl, I1.kept (t' := s1.toks) fun b o e => Heap.get?_push_of_some _ e, turn_list a _, ⟨_, Heap.get?_push_size _ rfl, rfl, rfl⟩, fun b hb => ?_, ?_⟩
  · have e : b = s1.heap.objs.size := by simpa using hb
    subst e
    exact I1.fpOk (Nat.le_refl _) (I1.hok.fresh (Nat.le_refl _))
  · refine ⟨γ1, F1, ds, _, δ1, p1, q1, S1, fun N' _ _ γ' F' H' δ' pp sm S' hC => ?_, k1 (by rw [← h2.len]; exact hz)⟩
    obtain ⟨a', xs', e', h1', h2'⟩ := res_lst S' (R1.mono pp sm) hC
    cases e'
    refine ⟨fun i hi => ?_, ⟨xs', h1', by rw [h2'.len]; exact Nat.le_refl _⟩, fun i x H'' hi ⟨eH, hy⟩ => ?_⟩
    · have : i < xs'.length := by rw [h2'.len]; exact hi
      exact ⟨xs', xs'[i], h1', by simp [this]⟩
    · subst eH
      obtain ⟨d, hd, rd⟩ := h2'.at (hy xs' h1')
      exact ⟨F', d, hd, Same.refl _, S', rd⟩
theorem wi_tup {R : List D → (Sto → Prop) → Sto → Prop} (h : WE Y iter ρ δ fun d δ1 => ∃ ds, d = .tup ds ∧ (ds.length ≤ sizeLine → R ds (fun _ => True) δ1)) : WI Y tg iter ρ δ R := .mk fun σ γ F H A pins s I => by
  refine thn (h.run σ γ F H A pins s I) fun v s1 ⟨x, H1, I1, rx, γ1, F1, d1, δ1, p1, q1, S1, R1, ds, e1, k1⟩ => ?_
  subst e1
  obtain ⟨a, xs, rfl, h1, h2, h3, _⟩ := res_tup S1 R1 rfl
  cases rx
  obtain ⟨its, rv, pl, hz⟩ := I1.tuple h1
  refine wpAny_pyIter_tuple (show s1.heap.IsTuple a its.toArray from pl) ?_
  refine ⟨s1.heap.objs.size, [s1.heap.objs.size], _, _, H1, rfl, I1.kept (t' := s1.toks) fun b o e => Heap.get?_push_of_some _ e, turn_tuple a _, ⟨_, Heap.get?_push_size _ rfl, rfl, rfl⟩, fun b hb => ?_, ?_⟩
  · have e : b = s1.heap.objs.size := by simpa using hb
    subst e
    exact I1.fpOk (Nat.le_refl _) (I1.hok.fresh (Nat.le_refl _))
  · refine ⟨γ1, F1, ds, _, δ1, p1, q1, S1, fun N' _ _ γ' F' H' δ' pp sm S' hC => ?_, k1 (by rw [← h2.len]; exact hz)⟩
    obtain ⟨a', xs', e', h1', h2', _⟩ := res_tup S' (R1.mono pp sm) rfl
    cases e'
    refine ⟨fun i hi => ?_, ⟨xs', h1', by rw [h2'.len]; exact Nat.le_refl _⟩, fun i x H'' hi ⟨eH, hy⟩ => ?_⟩
    · have : i < xs'.length := by rw [h2'.len]; exact hi
      exact ⟨xs', xs'[i], h1', by simp [this]⟩
    · subst eH
      obtain ⟨d, hd, rd⟩ := h2'.at (hy xs' h1')
      exact ⟨F', d, hd, Same.refl _, S', rd⟩
/-- the ints lo, lo + 1, .. -/
def rangeD (lo : Int) (n : Nat) : List D := (List.range n).map fun i => .int (lo + (i : Nat))
theorem rangeD_len {lo : Int} {n : Nat} : (rangeD lo n).length = n := by simp [rangeD]
theorem rangeD_get {lo : Int} {n i : Nat} (h : i < n) : (rangeD lo n)[i]? = some (.int (lo + i)) := by simp [rangeD, h]
theorem rangeD_at {lo : Int} {n i : Nat} {d : D} (h : (rangeD lo n)[i]? = some d) : i < n ∧ d = .int (lo + i) := by
  have hi : i < n := by have := (List.getElem?_eq_some_iff.mp h).1; rwa [rangeD_len] at this
  rw [rangeD_get hi] at h
  exact ⟨hi, (Option.some.inj h).symm⟩
theorem yld_range {K : PySem.W.Frag} {lo : Int} {n : Nat} : Yld K N (Itr lo n) (rangeD lo n) γ F fun _ => True := fun γ' F' H' δ' pp sm S' hC => by
  rw [rangeD_len]
  refine ⟨fun i hi => hi, Nat.le_refl _, fun i x H'' hi ⟨eH, hx⟩ => ?_⟩
  subst eH hx
  exact ⟨F', _, rangeD_get hi, Same.refl _, S', Rep.rt (by rw [Rep])⟩
theorem wi_range1 {R : List D → (Sto → Prop) → Sto → Prop} (hm : Y.X.mg "range" = none) (h : WA Y [e] ρ δ fun ds δ1 => ∃ j : Int, ds = [.int j] ∧ (-(2 ^ 62) ≤ j ∧ j < 2 ^ 62) ∧ R (rangeD 0 j.toNat) (fun _ => True) δ1) (hg : Gl Y.X "range" := by rfl) (hs : starEach [e] Y.X.env = [(false, eval e Y.X.env)] := by rfl) :
    WI Y tg (.Call (.Name "range" p) [e] [] pos) ρ δ R := .mk fun σ γ F H A => i_of (pi_range1 hg hm pa_sem hs) (h.bind A fun vs H1 γ1 F1 ds δ1 p1 q1 A1 r1 ⟨j, e1, ⟨b1, b2⟩, k1⟩ => by
  subst e1
  obtain ⟨x, r, rfl, hx, hr⟩ := r1
  cases hr
  have hx' : Rep _ _ _ _ := hx
  rw [Rep] at hx'
  subst hx'
  exact ⟨j, rfl, b1, b2, γ1, F1, _, _, δ1, p1, q1, A1.s, fun N' _ _ => yld_range, k1⟩)
theorem wi_range2 {R : List D → (Sto → Prop) → Sto → Prop} (hm : Y.X.mg "range" = none) (h : WA Y [a, b] ρ δ fun ds δ1 => ∃ i j : Int, ds = [.int i, .int j] ∧ (-(2 ^ 62) ≤ i ∧ i < 2 ^ 62 ∧ -(2 ^ 62) ≤ j ∧ j < 2 ^ 62) ∧ R (rangeD i (j - i).toNat) (fun _ => True) δ1) (hg : Gl Y.X "range" := by rfl)
    (hs : starEach [a, b] Y.X.env = [(false, eval a Y.X.env), (false, eval b Y.X.env)] := by rfl) (hs2 : starEach [b] Y.X.env = [(false, eval b Y.X.env)] := by rfl) :
    WI Y tg (.Call (.Name "range" p) [a, b] [] pos) ρ δ R := .mk fun σ γ F H A => i_of (pi_range2 hg hm pa_sem hs hs2) (h.bind A fun vs H1 γ1 F1 ds δ1 p1 q1 A1 r1 ⟨i, j, e1, b1, k1⟩ => by
  subst e1
  obtain ⟨x, r, rfl, hx, y, r', rfl, hy, hr⟩ := r1
  cases hr
  have hx' : Rep _ _ _ _ := hx
  rw [Rep] at hx'
  have hy' : Rep _ _ _ _ := hy
  rw [Rep] at hy'
  subst hx' hy'
  exact ⟨i, j, rfl, b1, γ1, F1, _, _, δ1, p1, q1, A1.s, fun N' _ _ => yld_range, k1⟩)
end
end PV
namespace WE
open PySem PySem.Spec PyProof.Rows L2
/-- what the written part says of the class W above, which has no __init__ of its own: its base's is the built-in B's -/
structure UpTxt (K : PySem.W.Frag) (mg : Str → Option Value) (x : Str) (W : Addr) : Prop where
  gW : mg x = some (.ref W)
  rd : PySem.W.readsIn K W (.type "type") = true
  ga : PySem.W.specialIn K (.ref W) "__getattribute__" = some (some (.builtin "type.__getattribute__"))
  iW : PySem.W.findCls K (.ref W) (.type "type") "__init__" = some (.val (.builtin "ValueError.__init__"))
section
variable {X : Cx} {e : Expr} {es : List Expr} {ta : TA} {p1 p2 pos : Pos} {x : Str} {W : Addr}
theorem pe_weinit {pl : Sem Bool} (hg : Gl X x) (U : UpTxt X.K X.mg x W) (ha : PA X (e :: es) ta) (hdb : (x == ("__debug__" : Str)) = false := by decide)
    (hc : eval (.Call (.Attribute (.Name x p1) "__init__" p2) (e :: es) [] pos) X.env = (do
      let ov ← eval (.Name x p1) X.env
      standAt p2.atName
      let (f, first) ← holding [ov] (getMethod ov "__init__" pl)
      callWith pos f first (backTo pos (starEach (e :: es) X.env)) (backToKw pos (keywordEach [] X.env))) := by rfl)
    (he : starEach (e :: es) X.env = (false, eval e X.env) :: starEach es X.env := by rfl) (hpl : (backTo pos (starEach es X.env)).any (·.1) = false := by rfl) :
    PE X (.Call (.Attribute (.Name x p1) "__init__" p2) (e :: es) [] pos) (tVeI X.K ta) := by
  refine ⟨fun pins s σ H Q I h => ?_⟩
  refine PySem.W.methodCall_KW (ld_glob I hg U.gW ?_ hdb) hc
  refine PySem.W.method_cls I.kIn U.ga (PySem.W.cls_value I.kIn U.rd U.iW (by decide +kernel) ?_)
  show wpAny _ _ (callWith pos (Value.builtin "ValueError.__init__") [] (backTo pos (starEach (e :: es) X.env)) []) _ _ _
  refine PyProof.Rows.callWith_method1 (thn (ha.run pos pins _ σ H _ (I.tok _) h) fun us s1 ⟨vs, H1, I1, r1, a, C, ws, ev, hl, T, ea, q⟩ => ?_) he hpl
  subst ev
  cases r1 with
  | @cons _ u0 _ ur ra rw' =>
    obtain rfl : u0 = Value.ref a := ra
    have hlen : ur.length ≤ sizeLine := by
      rw [← Paired.length rw', sizeLine_eq]
      omega
    exact oinit_ok T I1 ea hlen fun s' J => ⟨.non, H1, J, rfl, q⟩
end
/-- the __init__'s promise -/
def spErr (C : Addr) : Sp := fun vs H Q _ => ∃ (a : Addr) (v : V), vs = [.ref a, v] ∧ H a = some (exo a C none) ∧ ∀ dx, H dx = none → dx ≠ a → Q .non (upd (upd H dx (exd dx [("given", v)])) a (exo a C (some dx)))
theorem err_made {C : Addr} {H1 : Hp} {v : V} {Q : XK} (h : ∀ d, H1 d = none → Q (.ref C) (some d) (upd H1 d (.xd [("given", v)]))) :
    [v].length ≤ 1000 ∧ ∀ a, H1 a = none → spErr C (.ref a :: ([v] ++ [])) (upd H1 a (exo a C none)) (fun u H2 => u = .non ∧ ∃ (d : Addr) (fs : List (Str × V)), H2 a = some (exo a C (some d)) ∧ H2 d = some (exd d fs) ∧ H1 d = none ∧ Q (.ref C) (some d) (upd (del H2 a) d (.xd fs))) (fun _ _ _ => False) := by
  refine ⟨by show 1 ≤ 1000; decide, fun a ha => ⟨a, v, rfl, upd_same, fun dx hdx ne => ⟨rfl, dx, _, upd_same, by rw [upd_ne ne, upd_same], ?_, ?_⟩⟩⟩
  · rw [upd_ne ne] at hdx
    exact hdx
  · have hdx' : H1 dx = none := by rw [upd_ne ne] at hdx; exact hdx
    have e : upd (del (upd (upd (upd H1 a (exo a C none)) dx (exd dx [("given", v)])) a (exo a C (some dx))) a) dx (.xd [("given", v)]) = upd H1 dx (.xd [("given", v)]) := by
      funext b
      by_cases hb : b = dx
      · rw [hb, upd_same, upd_same]
      · rw [upd_ne hb, upd_ne hb]
        by_cases hba : b = a
        · rw [hba, del_same, ha]
        · rw [del_ne hba, upd_ne hba, upd_ne hb, upd_ne hba]
    rw [e]
    exact h dx hdx'
end WE
namespace PV
open PySem PySem.Spec PyProof.Rows L2
/-- a thing of the heap comes into the store -/
theorem RepS.adopt {K : PySem.W.Frag} {N F H : Hp} {γ : List Addr} {δ : Sto} {p : Addr} {d : D} (h : RepS K N γ F H δ) (hp : p ∉ γ) (hf : F p = none) (hn : N p = none) (hd : RepO K (γ ++ [p]) F H p d) : RepS K N (γ ++ [p]) F H (δ ++ [some d]) := by
  have px : γ <+: γ ++ [p] := ⟨[p], rfl⟩
  have cases_ : ∀ (j : Nat) a d', (γ ++ [p])[j]? = some a → (δ ++ [some d])[j]? = some (some d') → (γ[j]? = some a ∧ δ[j]? = some (some d')) ∨ (a = p ∧ d' = d) := fun j a d' e1 e2 => by
    by_cases hj : j < γ.length
    · rw [List.getElem?_append_left hj] at e1
      rw [List.getElem?_append_left (by rw [← h.len]; exact hj)] at e2
      exact .inl ⟨e1, e2⟩
    · have : j = γ.length := by
        have := (List.getElem?_eq_some_iff.mp e1).1
        simp at this; omega
      subst this
      rw [List.getElem?_append_right (Nat.le_refl _)] at e1
      rw [List.getElem?_append_right (by rw [h.len]; exact Nat.le_refl _)] at e2
      rw [Nat.sub_self] at e1
      rw [h.len, Nat.sub_self] at e2
      injection e1 with e1; injection e2 with e2; injection e2 with e2
      exact .inr ⟨e1.symm, e2.symm⟩
  refine ⟨h.sub, h.sub2, h.dis, fun a ha => (List.mem_append.mp ha).elim (h.disg a) (fun z o e => by simp at z; subst z; rw [hn] at e; cases e), by simp [h.len], ?_, fun a ha => ?_, fun j a d' e1 e2 => ?_, fun j a d' e1 e2 => ?_⟩
  · rw [List.nodup_append]
    exact ⟨h.nd, by simp, fun a ha b hb => by simp at hb; subst hb; exact fun z => hp (z ▸ ha)⟩
  · rcases List.mem_append.mp ha with ha | ha
    · exact h.live a ha
    · simp at ha; subst ha; exact hd.there
  · rcases cases_ j a d' e1 e2 with ⟨q1, q2⟩ | ⟨rfl, rfl⟩
    · exact h.off j a d' q1 q2
    · exact ⟨hf, hn⟩
  · rcases cases_ j a d' e1 e2 with ⟨q1, q2⟩ | ⟨rfl, rfl⟩
    · exact (h.obj j a d' q1 q2).mono px (Same.refl _) rfl
    · exact hd
theorem ne_mem {γ : List Addr} {a d : Addr} (ha : a ∈ γ) (hd : d ∉ γ) : a ≠ d := fun z => hd (z ▸ ha)
/-! ### comprehensions -/
def wipeD (ρ : En) : List Nat → En
  | [] => ρ
  | v :: vs => (wipeD ρ vs).set v none
theorem wipe_get {σ : L2.St} {j : Nat} : ∀ {vs : List Nat}, (wipe σ vs)[j]? = if j ∈ vs then (if j < σ.length then some none else none) else σ[j]?
  | [] => by simp [wipe]
  | v :: vs => by
    unfold wipe
    rw [List.getElem?_set, wipe_get (vs := vs), wipe_length]
    by_cases h : v = j
    · subst h; simp
    · rw [if_neg h]
      have : (j ∈ v :: vs) = (j ∈ vs) := by simp [Ne.symm h]
      simp only [this]
theorem wipeD_get {ρ : En} {j : Nat} : ∀ {vs : List Nat}, (wipeD ρ vs)[j]? = if j ∈ vs then (if j < ρ.length then some none else none) else ρ[j]?
  | [] => by simp [wipeD]
  | v :: vs => by
    have wl : ∀ vs : List Nat, (wipeD ρ vs).length = ρ.length := fun vs => by
      induction vs with
      | nil => rfl
      | cons v vs ih => unfold wipeD; rw [List.length_set, ih]
    unfold wipeD
    rw [List.getElem?_set, wipeD_get (vs := vs), wl]
    by_cases h : v = j
    · subst h; simp
    · rw [if_neg h]
      have : (j ∈ v :: vs) = (j ∈ vs) := by simp [Ne.symm h]
      simp only [this]
theorem wipe_set {σ : L2.St} {i : Nat} {x : Option V} {vs : List Nat} (h : i ∈ vs) : wipe (σ.set i x) vs = wipe σ vs := by
  apply List.ext_getElem?
  intro j
  rw [wipe_get, wipe_get, List.length_set]
  by_cases hj : j ∈ vs
  · rw [if_pos hj, if_pos hj]
  · rw [if_neg hj, if_neg hj, List.getElem?_set_ne (fun (z : i = j) => hj (z ▸ h))]
theorem RepE.wipe {K : PySem.W.Frag} {γ : List Addr} {F : Hp} {σ : L2.St} {ρ : En} {vs : List Nat} (h : RepE K γ F σ ρ) : RepE K γ F (L2.wipe σ vs) (wipeD ρ vs) := by
  have wl : ∀ vs : List Nat, (wipeD ρ vs).length = ρ.length := fun vs => by
    induction vs with
    | nil => rfl
    | cons v vs ih => unfold wipeD; rw [List.length_set, ih]
  refine ⟨by rw [wl, wipe_length]; exact h.1, fun i d e => ?_⟩
  rw [wipeD_get] at e
  by_cases hi : i ∈ vs
  · rw [if_pos hi] at e; split at e <;> cases e
  · rw [if_neg hi] at e
    obtain ⟨v, h1, h2⟩ := h.2 i d e
    exact ⟨v, by rw [wipe_get, if_neg hi]; exact h1, h2⟩
theorem takes_no {X : Cx} {K : PySem.W.Frag} {N : Hp} {γ : List Addr} {F : Hp} : Takes X (OutW K N γ F fun _ _ _ _ => False) := takes_none5.imp fun c d σ H ⟨_, _, _, _, _, _, _, _, _, _, _, _, _, _, _, _, z⟩ => z
/-- the context of a comprehension's block -/
abbrev blkX (Y : PX) (s : Shared) (H : Hp) (scope : Scope) (C : Addr) (cl : List (Str × Addr)) (fp : List Addr) (γ : List Addr) (F N : Hp) : PX := ⟨Y.X.blk s H scope (compEnvC scope cl C Y.X.env) fp, γ, F, N, fun _ _ _ _ => False, takes_no, PassesOwn.never⟩
/-- a target within a comprehension: it sets the block's own slots vs alone -/
structure WGv (Y : PX) (tg : Expr) (d : D) (ρ : En) (δ : Sto) (vs : List Nat) (M : En → Sto → Prop) : Prop where
  run : ∀ σ γ F H v, At Y γ F H δ σ ρ → RT Y.X.K γ F d v → gSem Y.X tg v σ H (fun σ' H' => wipe σ' vs = wipe σ vs ∧ OutS Y.X.K Y.N γ F M σ' H')
/-- the tests of a comprehension -/
def tsSem (X : Cx) (ifs : List Expr) : TT := fun σ H Q => ∀ pins s, Inv X pins σ H s → wpAny (model X.prog X.w) X.A (forIn ifs true fun c r => if r = true then do let ok ← isTrue c X.env (eval c X.env); pure (ForInStep.yield ok) else pure (ForInStep.yield r)) (TP X pins σ Q) X.xe s
structure WTs (Y : PX) (ifs : List Expr) (ρ : En) (δ : Sto) (Q : Bool → Sto → Prop) : Prop where
  run : ∀ σ γ F H, At Y γ F H δ σ ρ → tsSem Y.X ifs σ H (OutB Y.X.K Y.N γ F Q)
section
variable {Y : PX} {e a b o value tg iter elt c : Expr} {es ifs : List Expr} {st : Stmt} {sts body : List Stmt} {ρ : En} {δ : Sto} {σ : L2.St} {γ γ' : List Addr} {F F' H H' N : Hp} {pos p apos : Pos} {k : Nat} {x m f : Str} {C : Addr} {ps : List Str} {dds : List D} {S : DSp} {Q : D → Sto → Prop}
theorem wts_nil {Q : Bool → Sto → Prop} (h : Q true δ) : WTs Y [] ρ δ Q := .mk fun σ γ F H A pins s I => pts_nil.run pins s σ H _ I (OutB.here A.s h)
theorem wts_one {Q : Bool → Sto → Prop} (h : WT Y c ρ δ Q) : WTs Y [c] ρ δ Q := .mk fun σ γ F H A pins s I => (pts_one pt_sem).run pins s σ H _ I (h.run σ γ F H A)
theorem wgv_name (i : Nat) {d : D} {vs : List Nat} {M : En → Sto → Prop} (h : M (ρ.set i (some d)) δ) (hv : i ∈ vs) (hN : Y.X.N.Nodup) (hi : Y.X.N[i]? = some x) (hx : Loc Y.X.env.scope x) (hf : Y.X.fn x = true ∨ Y.X.env.scope.names.lookup x = some .local) : WGv Y (.Name x pos) d ρ δ vs M := .mk fun σ γ F H v A r =>
  g_of (pg_name hN hi hx hf) ⟨wipe_set hv, OutS.here A.s (A.e.set r) h⟩
/-- in whatever block of the comprehension -/
def AllB (Y : PX) (scope : Scope) (P : PX → Prop) : Prop := ∀ s H C cl fp γ F N, P (blkX Y s H scope C cl fp γ F N)
/-- the comprehension's turns -/
def LcTurns (Y : PX) (elt tg : Expr) (ifs : List Expr) (scope : Scope) (vs : List Nat) (ρ : En) (Q : D → Sto → Prop) : List D → (Sto → Prop) → Sto → Prop := fun ds Cd δ1 => ds.length ≤ sizeLine ∧ ∃ inv : Nat → List D → Sto → Prop, inv 0 [] δ1 ∧ (∀ i acc δ', i ≤ ds.length → inv i acc δ' → Cd δ') ∧
  (∀ (i : Nat) d acc δ', ds[i]? = some d → inv i acc δ' → AllB Y scope fun Z => WGv Z tg d (wipeD ρ vs) δ' vs fun ρ2 δ2 => AllB Y scope fun Z => WTs Z ifs ρ2 δ2 fun b δ3 =>
    (b = true → AllB Y scope fun Z => WE Z elt ρ2 δ3 fun y δ4 => y.isAl = false ∧ inv (i + 1) (acc ++ [y]) δ4) ∧ (b = false → inv (i + 1) acc δ3)) ∧
  (∀ acc δ', inv ds.length acc δ' → Q (.lst acc) δ' ∨ Q (.al δ'.length) (δ' ++ [some (.lst acc)]))
abbrev gU (Y : PX) (scope : Scope) (tg : Expr) : TG := fun v σ H M => ∀ s H0 C cl fp, gSem (Y.X.blk s H0 scope (compEnvC scope cl C Y.X.env) fp) tg v σ H M
abbrev tU (Y : PX) (scope : Scope) (ifs : List Expr) : TT := fun σ H M => ∀ s H0 C cl fp, tsSem (Y.X.blk s H0 scope (compEnvC scope cl C Y.X.env) fp) ifs σ H M
abbrev eU (Y : PX) (scope : Scope) (elt : Expr) : TE := fun σ H M => ∀ s H0 C cl fp, tSem (Y.X.blk s H0 scope (compEnvC scope cl C Y.X.env) fp) elt σ H M
theorem lc_reads {scope : Scope} {vs : List Nat} (h : WI Y tg iter ρ δ (LcTurns Y elt tg ifs scope vs ρ Q)) (A : At Y γ F H δ σ ρ) : tLc (iSem Y.X tg iter) (gU Y scope tg) (tU Y scope ifs) (eU Y scope elt) vs σ H (Out Y.X.K Y.N γ F Q) := by
  refine (h.run σ γ F H A).mono fun J H1 ⟨γ1, F1, ds, Cd, δ1, p1, q1, S1, yl, hz, inv, i0, hC, turn, fin⟩ => fun Dd hD => ?_
  refine ⟨fun i m H' => m = ds.length - i ∧ i ≤ ds.length ∧ ∃ γ' F' δ' acc accV, γ1 <+: γ' ∧ Same F1 F' ∧ RepS Y.X.K Y.N γ' F' H' δ' ∧ H' Dd = some (.lst accV) ∧ Dd ∉ γ' ∧ F' Dd = none ∧ Y.N Dd = none ∧ Reps Y.X.K F' acc accV ∧ accV.length ≤ i ∧ inv i acc δ', ⟨ds.length, by simp, Nat.zero_le _, ?_⟩, ?_⟩
  · have hF : F1 Dd = none := S1.sub.free hD
    have hN : Y.N Dd = none := S1.sub2.free hD
    have hg : Dd ∉ γ1 := fun z => by obtain ⟨o, q⟩ := S1.live _ z; rw [hD] at q; cases q
    refine ⟨γ1, F1, δ1, [], [], pre_refl, Same.refl _, ⟨fun b u e => ?_, fun b u e => ?_, S1.dis, S1.disg, S1.len, S1.nd, fun a ha => ?_, S1.off, fun j a d e1 e2 => ?_⟩, upd_same, hg, hF, hN, Reps.nil, Nat.le_refl _, i0⟩
    · rw [upd_ne (ne_of_none e hF)]; exact S1.sub _ _ e
    · rw [upd_ne (ne_of_none e hN)]; exact S1.sub2 _ _ e
    · rw [upd_ne (ne_mem ha hg)]; exact S1.live a ha
    · exact (S1.obj j a d e1 e2).mono pre_refl (Same.refl _) (upd_ne (ne_mem (List.mem_of_getElem? e1) hg))
  · rintro i m H' ⟨rfl, hi, γ2, F2, δ2, acc, accV, p2, q2, S2, hH, hg, hF, hN, ra, la, k2⟩
    have sN : Same Y.N (upd Y.N Dd (.lst accV)) := fun b u e => by rw [upd_ne (ne_of_none e hN)]; exact e
    have S2' : RepS Y.X.K (upd Y.N Dd (.lst accV)) γ2 F2 H' δ2 := by
      refine ⟨S2.sub, fun b u e => ?_, fun b u e => ?_, fun b hb => ?_, S2.len, S2.nd, S2.live, fun j a d e1 e2 => ?_, S2.obj⟩
      · by_cases hb : b = Dd
        · subst hb; rw [upd_same] at e; cases e; exact hH
        · rw [upd_ne hb] at e; exact S2.sub2 _ _ e
      · by_cases hb : b = Dd
        · subst hb; exact hF
        · rw [upd_ne hb] at e; exact S2.dis b u e
      · intro o e; rw [upd_ne (ne_mem hb hg)] at e; exact S2.disg b hb o e
      · obtain ⟨o1, o2⟩ := S2.off j a d e1 e2
        exact ⟨o1, by rw [upd_ne (ne_mem (List.mem_of_getElem? e1) hg)]; exact o2⟩
    obtain ⟨go, stop, yld⟩ := yl _ sN ⟨H', S2'.sub2⟩ γ2 F2 H' δ2 p2 q2 S2' (hC i acc δ2 hi k2)
    -- back from the turn: Dd is taken out of the frame
    have back : ∀ {γ4 : List Addr} {F4 H4 : Hp} {δ4 : Sto}, γ2 <+: γ4 → Same F2 F4 → RepS Y.X.K (upd Y.N Dd (.lst accV)) γ4 F4 H4 δ4 → H4 Dd = some (.lst accV) ∧ Dd ∉ γ4 ∧ F4 Dd = none ∧ ∀ o, RepS Y.X.K Y.N γ4 F4 (upd H4 Dd o) δ4 := fun {γ4 F4 H4 δ4} p4 q4 S4 => by
      have g4 : Dd ∉ γ4 := fun z => by obtain ⟨_, _, q⟩ := S4.disg _ z _ upd_same; cases q
      have f4 : F4 Dd = none := S4.dis Dd _ upd_same
      refine ⟨S4.sub2 _ _ upd_same, g4, f4, fun o => ⟨fun b u e => ?_, fun b u e => ?_, fun b u e => ?_, fun b hb => ?_, S4.len, S4.nd, fun b hb => ?_, fun j a d e1 e2 => ?_, fun j a d e1 e2 => ?_⟩⟩
      · rw [upd_ne (ne_of_none e f4)]; exact S4.sub _ _ e
      · have nb := ne_of_none e hN
        rw [upd_ne nb]; exact S4.sub2 _ _ (by rw [upd_ne nb]; exact e)
      · exact S4.dis b u (by rw [upd_ne (ne_of_none e hN)]; exact e)
      · intro o e; exact S4.disg b hb o (by rw [upd_ne (ne_mem hb g4)]; exact e)
      · rw [upd_ne (ne_mem hb g4)]; exact S4.live b hb
      · obtain ⟨o1, o2⟩ := S4.off j a d e1 e2
        exact ⟨o1, by rw [upd_ne (ne_mem (List.mem_of_getElem? e1) g4)] at o2; exact o2⟩
      · exact (S4.obj j a d e1 e2).mono pre_refl (Same.refl _) (upd_ne (ne_mem (List.mem_of_getElem? e1) g4))
    have updE : ∀ {H4 : Hp} {o : HO}, H4 Dd = some o → upd H4 Dd o = H4 := fun {H4 o} e => by
      funext b
      by_cases hb : b = Dd
      · subst hb; rw [upd_same, e]
      · rw [upd_ne hb]
    by_cases hlt : i < ds.length
    · refine .inr ⟨go i hlt, fun H3 => ∃ γ' F' δ' acc accV, γ1 <+: γ' ∧ Same F1 F' ∧ RepS Y.X.K Y.N γ' F' H3 δ' ∧ H3 Dd = some (.lst accV) ∧ Dd ∉ γ' ∧ F' Dd = none ∧ Y.N Dd = none ∧ Reps Y.X.K F' acc accV ∧ accV.length ≤ i + 1 ∧ inv (i + 1) acc δ', fun H3 z => ⟨ds.length - (i + 1), by omega, rfl, hlt, z⟩, fun x H3 hy => ?_⟩
      obtain ⟨F3, d, hd, q3, S3, R3⟩ := yld i x H3 hlt hy
      intro s0 H0 C0 cl0 fp0
      have E0 : RepE Y.X.K γ2 F3 (L2.wipe σ vs) (wipeD ρ vs) := (A.e.mono (p1.trans p2) (q1.trans (q2.trans q3))).wipe
      refine gSem.mono ((turn i d acc δ2 hd k2 s0 H0 C0 cl0 fp0 γ2 F3 (upd Y.N Dd (.lst accV))).run (L2.wipe σ vs) γ2 F3 H3 x ⟨pre_refl, Same.refl _, S3, E0⟩ R3) fun σ4 H4 ⟨hw, γ4, F4, ρ4, δ4, p4, q4, S4, E4, k4⟩ => ⟨?_, ?_⟩
      · rw [hw]; apply List.ext_getElem?; intro j; rw [wipe_get, wipe_get, wipe_length]; split <;> rfl
      · intro s1 H1' C1 cl1 fp1 pins s I
        refine thn ((k4 s1 H1' C1 cl1 fp1 γ4 F4 (upd Y.N Dd (.lst accV))).run σ4 γ4 F4 H4 ⟨pre_refl, Same.refl _, S4, E4⟩ pins s I) fun b s' ⟨H5, I5, γ5, F5, δ5, p5, q5, S5, k5⟩ => ⟨H5, I5, ?_⟩
        have P5 := p2.trans (p4.trans p5)
        have Q5 := q2.trans (q3.trans (q4.trans q5))
        cases b with
        | true =>
          refine iteT ?_
          intro s2 H2' C2 cl2 fp2
          refine tSem.mono ((k5.1 rfl s2 H2' C2 cl2 fp2 γ5 F5 (upd Y.N Dd (.lst accV))).run σ4 γ5 F5 H5 ⟨pre_refl, Same.refl _, S5, E4.mono p5 q5⟩) fun y H6 ⟨γ6, F6, d6, δ6, p6, q6, S6, R6, n6, k6⟩ => ?_
          obtain ⟨b1, b2, b3, b4⟩ := back (p4.trans (p5.trans p6)) (q3.trans (q4.trans (q5.trans q6))) S6
          exact ⟨accV, b1, by omega, γ6, F6, δ6, acc ++ [d6], accV ++ [y], P5.trans p6, Q5.trans q6, b4 _, upd_same, b2, b3, hN, (RTs.append (γ := []) (Reps.mono (q3.trans (q4.trans (q5.trans q6))) _ ra).rt (RTs.cons (R6.rep n6).rt RTs.nil)).reps (by
            have na := ra.noAl
            unfold PV.noAl at na ⊢
            rw [List.all_append, na]; simp [n6]), by simp; omega, k6⟩
        | false =>
          refine iteF ?_
          obtain ⟨b1, b2, b3, b4⟩ := back (p4.trans p5) (q3.trans (q4.trans q5)) S5
          have S6 := b4 (.lst accV)
          rw [updE b1] at S6
          exact ⟨γ5, F5, δ5, acc, accV, P5, Q5, S6, b1, b2, b3, hN, Reps.mono (q3.trans (q4.trans q5)) _ ra, by omega, k5.2 rfl⟩
    · have e : i = ds.length := by omega
      subst e
      rcases fin acc δ2 k2 with k2 | k2
      · obtain ⟨S7, sm⟩ : RepS Y.X.K Y.N γ2 (upd F2 Dd (.lst accV)) H' δ2 ∧ Same F2 (upd F2 Dd (.lst accV)) := by
          have sm : Same F2 (upd F2 Dd (.lst accV)) := fun b u e => by rw [upd_ne (ne_of_none e hF)]; exact e
          refine ⟨⟨fun b u e => ?_, S2.sub2, fun b u e => ?_, S2.disg, S2.len, S2.nd, S2.live, fun j a d e1 e2 => ?_, fun j a d e1 e2 => ?_⟩, sm⟩
          · by_cases hb : b = Dd
            · subst hb; rw [upd_same] at e; cases e; exact hH
            · rw [upd_ne hb] at e; exact S2.sub _ _ e
          · rw [upd_ne (ne_of_none e hN)]; exact S2.dis b u e
          · rw [upd_ne (ne_mem (List.mem_of_getElem? e1) hg)]; exact S2.off j a d e1 e2
          · exact (S2.obj j a d e1 e2).mono pre_refl sm rfl
        exact .inl ⟨stop, γ2, _, .lst acc, δ2, p1.trans p2, q1.trans (q2.trans sm), S7, Rep.rt (by rw [Rep]; exact ⟨Dd, accV, rfl, SqL.of upd_same, Reps.mono sm _ ra⟩), k2⟩
      · exact .inl ⟨stop, γ2 ++ [Dd], F2, .al δ2.length, _, (p1.trans p2).trans ⟨[Dd], rfl⟩, q1.trans q2, S2.adopt (d := .lst acc) hg hF hN ⟨accV, hH, ra.rt⟩, ⟨Dd, by rw [← S2.len]; exact get_last, rfl⟩, k2⟩
/-- [elt for tg in iter if ..] -/
theorem we_lc {scope : Scope} {own : List (Str × Nat)} (hc : Y.X.calm = true) (hN : Y.X.N.Nodup) (ok : BlkOk Y.X.N Y.X.env.scope scope own) (h : WI Y tg iter ρ δ (LcTurns Y elt tg ifs scope (own.map (·.2)) ρ Q)) (hs : ∀ x, foldedSetIterable iter Y.X.env x = pure x := by intro _; rfl) :
    WE Y (.ListComp elt [⟨tg, iter, ifs, 0⟩] scope pos) ρ δ Q := .mk fun σ γ F H A =>
  t_of (pe_lc (g := gU Y scope tg) (tt := tU Y scope ifs) (te := eU Y scope elt) hc hN pi_sem ok (fun s0 H0 C0 cl fp => ⟨fun pins s σ H v u Q I r h => h s0 H0 C0 cl fp pins s u I r⟩) (fun s0 H0 C0 cl fp => ⟨fun pins s σ H Q I h => h s0 H0 C0 cl fp pins s I⟩) (fun s0 H0 C0 cl fp => ⟨fun pins s σ H Q I h => h s0 H0 C0 cl fp pins s I⟩) hs) (lc_reads h A)
theorem ws_setLc (i : Nat) {scope : Scope} {own : List (Str × Nat)} {y : Str} {py spos : Pos} {T : DE} (hc : Y.X.calm = true) (hN : Y.X.N.Nodup) (hy : Y.X.N[i]? = some y) (hyl : Y.X.env.scope.names.lookup y = some .local)
    (hsw : swapsWith (.ListComp elt [⟨tg, iter, ifs, 0⟩] scope pos) (some (.Name y py)) spos.line Y.X.env = pure true) (ok : BlkOk Y.X.N Y.X.env.scope scope own) (h : WI Y tg iter ρ δ (LcTurns Y elt tg ifs scope (own.map (·.2)) ρ fun d δ1 => T.nx (ρ.set i (some d)) δ1)) (hs : ∀ x, foldedSetIterable iter Y.X.env x = pure x := by intro _; rfl) :
    WS Y (.Assign [.Name y py] (.ListComp elt [⟨tg, iter, ifs, 0⟩] scope pos) spos) ρ δ T := .mk fun σ γ F H A => by
  refine s_of (L2.ps_setLc (g := gU Y scope tg) (tt := tU Y scope ifs) (te := eU Y scope elt) hc hN hy hyl hsw pi_sem ok (fun s0 H0 C0 cl fp => ⟨fun pins s σ H v u Q I r h => h s0 H0 C0 cl fp pins s u I r⟩) (fun s0 H0 C0 cl fp => ⟨fun pins s σ H Q I h => h s0 H0 C0 cl fp pins s I⟩) (fun s0 H0 C0 cl fp => ⟨fun pins s σ H Q I h => h s0 H0 C0 cl fp pins s I⟩) hs) ?_
  have z := lc_reads h A
  refine iSem.mono z fun J H1 w Dd hD => ?_
  obtain ⟨W, w0, w1⟩ := w Dd hD
  refine ⟨W, w0, fun i m H' hw => ?_⟩
  rcases w1 i m H' hw with ⟨st, γ', F', d, δ', p, q, S, R, k⟩ | r
  · exact .inl ⟨st, γ', F', _, δ', p, q, S, (A.e.mono p q).set R, k⟩
  · exact .inr r
end
end PV
namespace PV
open PySem PySem.Spec PyProof.Rows L2
/-! ### errors with what is given -/
structure ErrX (K : PySem.W.Frag) (C : Addr) : Prop where
  xf : XfC K C
  no : PySem.W.findIn K (.ref C) "given" = some none
structure ErrD (P : Program) (w : World) (K : PySem.W.Frag) (mg : Str → Option Value) (base : Heap) (x : Str) (C : Addr) : Prop where
  gC : mg x = some (.ref C)
  oex : OexC K C
  ex : ∃ fI fd, PySem.W.findIn K (.ref C) "__init__" = some (some (.ref fI)) ∧ PySem.W.typeIn K (.ref fI) = some (.type "function") ∧ FnOk P w K mg base CX0 1 fI fd ["self", "given"] (WE.spErr C) ∧ L2.Binds K fd ["self", "given"] []
  X : ErrX K C
section
variable {Y : PX} {e a b o value tg iter elt c : Expr} {es ifs : List Expr} {st : Stmt} {sts body : List Stmt} {ρ : En} {δ : Sto} {σ : L2.St} {γ γ' : List Addr} {F F' H H' N : Hp} {pos p pos' apos : Pos} {k : Nat} {x m f : Str} {C : Addr} {ps : List Str} {dds : List D} {S : DSp} {Q : D → Sto → Prop}
theorem ws_raise {T : DE} (E : ErrD Y.X.prog Y.X.w Y.X.K Y.X.mg Y.X.base x C) (hr : Room 2 Y.X.A) (hc : Y.X.calm = true) (h : WE Y e ρ δ fun g δ1 => Y.T C g ρ δ1) (hg : Gl Y.X x := by rfl) (hdb : (x == ("__debug__" : Str)) = false := by decide)
    (he : starEach [e] Y.X.env = (false, eval e Y.X.env) :: starEach [] Y.X.env := by rfl) : WS Y (.Raise (some (.Call (.Name x p) [e] [] pos)) none pos') ρ δ T := .mk fun σ γ F H A => by
  obtain ⟨fI, fd, h1, h2, h3, h4⟩ := E.ex
  refine s_of (ps_raise hc Y.tk (pmk_oex E.oex h1 h2 h3 hr h4 .nil pass0 hg E.gC (pa_cons pe_sem pa_nil he) hdb he (by rfl))) ?_
  refine h.bind A fun v H1 γ1 F1 g δ1 p1 q1 A1 r1 k1 => ?_
  refine WE.err_made (C := C) (H1 := H1) (v := v) (Q := fun cls d H' => OutW Y.X.K Y.N Y.γ Y.F Y.T cls d σ H') fun d hd => ?_
  obtain ⟨S2, sm⟩ := A1.s.frozen (o := .xd [("given", v)]) hd
  exact ⟨γ1, _, C, d, v, g, ρ, δ1, rfl, rfl, A1.g, A1.f.trans sm, S2, A1.e.mono pre_refl sm, upd_same, r1.mono pre_refl sm, k1⟩
/-- the context of an except suite -/
abbrev suiteX (Y : PX) (ad : Addr) (oe : Obj) (pn : List (Addr × Obj)) (γ : List Addr) (F : Hp) : PX := ⟨Y.X.suite ad ((ad, oe) :: pn), γ, F, Y.N, fun _ _ _ _ => False, takes_no, PassesOwn.never⟩
abbrev tryX (Y : PX) (pn : List (Addr × Obj)) (xe : Value → Shared → Prop) (γ : List Addr) (F : Hp) (T : XT) (tk : Takes (Y.X.tr pn xe) (OutW (Y.X.tr pn xe).K Y.N γ F T)) (po : PassesOwn (model Y.X.prog Y.X.w) Y.X.A Y.X.env xe) : PX := ⟨Y.X.tr pn xe, γ, F, Y.N, T, tk, po⟩
/-- in the suite the error is known: e.given is g -/
structure Caught (Y : PX) (ad : Addr) (C : Addr) (g : D) (Z : PX) : Prop where
  zx : ∃ oe pn γ F cls d, Z = suiteX Y ad oe pn γ F ∧ Zc cls d oe ∧ (∃ vs, oe.data = .fields vs) ∧ cls = .ref C ∧ ∃ dd v, d = some dd ∧ F dd = some (.xd [("given", v)]) ∧ RT Y.X.K γ F g v
theorem ws_try {T : DE} {n : Str} {i : Nat} {b₀ : Stmt} {suite : List Stmt} {np : Pos} {c : Value} (hs : Y.X.stack = Y.X.env :: Y.X.outer) (hf : Y.X.env.frame = some Y.X.env.locals) (hN : Y.X.N.Nodup) (hi : Y.X.N[i]? = some n) (hln : Y.X.env.kindOf n = some .local) (hc : Names Y.X x c)
    (h : ∀ pn xe γ F tk po, WSs (tryX Y pn xe γ F (fun C g ρ1 δ1 => ∃ b, PySem.W.exmOne Y.X.K (.ref C) c = some b ∧ (b = true → ∀ ad oe pn γ2 F2, Caught Y ad C g (suiteX Y ad oe pn γ2 F2) → WSs (suiteX Y ad oe pn γ2 F2) (b₀ :: suite) (ρ1.set i (some (.gl ad))) δ1 ⟨fun ρ2 δ2 => T.nx (ρ2.set i none) δ2, T.rt, fun ρ2 δ2 => T.bk (ρ2.set i none) δ2, fun ρ2 δ2 => T.ct (ρ2.set i none) δ2⟩) ∧ (b = false → Y.T C g ρ1 δ1)) tk po) body ρ δ T) :
    WS Y (.Try body [.ExceptHandler (some (.Name x np)) (some n) (b₀ :: suite) pos'] [] [] pos) ρ δ T := .mk fun σ γ F H A => by
  refine s_of (ps_try_as (tb := fun W D σ H => ∀ pn xe, Takes (Y.X.tr pn xe) W → PassesOwn (model Y.X.prog Y.X.w) Y.X.A Y.X.env xe → ssSem (Y.X.tr pn xe) body D σ H)
    (ts := fun ad cls d D σ H => ∀ oe pn, Zc cls d oe → (∃ vs, oe.data = .fields vs) → ssSem (Y.X.suite ad ((ad, oe) :: pn)) (b₀ :: suite) D σ H) hs hf hN hi hln hc Y.tk
    (fun W pn xe tk po => ⟨fun pins s σ H D I h => h pn xe tk po pins s I⟩) (fun ad oe cls d pn hz hv => ⟨fun pins s σ H D I h => h oe pn hz hv pins s I⟩)) ?_
  intro pn xe tk po
  have setN : ∀ {γ' : List Addr} {F' : Hp} {σ' : L2.St} {ρ' : En}, RepE Y.X.K γ' F' σ' ρ' → RepE Y.X.K γ' F' (σ'.set i none) (ρ'.set i none) := fun {γ' F' σ' ρ'} r => ⟨by simpa using r.1, fun j d e => by
    by_cases hj : j = i
    · subst hj
      rw [List.getElem?_set] at e
      simp at e
    · rw [List.getElem?_set_ne (Ne.symm hj)] at e ⊢
      exact r.2 j d e⟩
  have tk' := tk.imp (W' := OutW (Y.X.tr pn xe).K Y.N γ F fun C g ρ1 δ1 => ∃ b, PySem.W.exmOne Y.X.K (.ref C) c = some b ∧ (b = true → ∀ ad oe pn γ2 F2, Caught Y ad C g (suiteX Y ad oe pn γ2 F2) → WSs (suiteX Y ad oe pn γ2 F2) (b₀ :: suite) (ρ1.set i (some (.gl ad))) δ1 ⟨fun ρ2 δ2 => T.nx (ρ2.set i none) δ2, T.rt, fun ρ2 δ2 => T.bk (ρ2.set i none) δ2, fun ρ2 δ2 => T.ct (ρ2.set i none) δ2⟩) ∧ (b = false → Y.T C g ρ1 δ1)) (fun cls d σ1 H1 ⟨γ1, F1, C, dd, v, g, ρ1, δ1, e1, e2, p1, q1, S1, E1, hd, rv, b, hb, k1, k2⟩ => ?_)
  · exact ((h pn xe γ F tk' po).run σ γ F H ⟨pre_refl, Same.refl _, A.s, A.e⟩)
  · subst e1 e2
    refine ⟨b, hb, fun e ad had oe pn2 hz hv => ?_, fun e => ⟨γ1, F1, C, dd, v, g, ρ1, δ1, rfl, rfl, A.g.trans p1, A.f.trans q1, S1, E1, hd, rv, k2 e⟩⟩
    have cz : Caught Y ad C g (suiteX Y ad oe pn2 γ1 F1) := ⟨oe, pn2, γ1, F1, .ref C, some dd, rfl, hz, hv, rfl, dd, v, rfl, hd, rv⟩
    refine ((k1 e ad oe pn2 γ1 F1 cz).run (σ1.set i (some (.ref ad))) γ1 F1 H1 ⟨pre_refl, Same.refl _, S1, E1.set (d := .gl ad) (Rep.rt (by rw [Rep]))⟩).mono ⟨fun σ' H' ⟨γ3, F3, ρ3, δ3, p3, q3, S3, E3, k3⟩ => ⟨γ3, F3, _, δ3, p1.trans p3, q1.trans q3, S3, setN E3, k3⟩, fun _ _ z => z.le p1 q1, fun σ' H' ⟨γ3, F3, ρ3, δ3, p3, q3, S3, E3, k3⟩ => ⟨γ3, F3, _, δ3, p1.trans p3, q1.trans q3, S3, setN E3, k3⟩, fun σ' H' ⟨γ3, F3, ρ3, δ3, p3, q3, S3, E3, k3⟩ => ⟨γ3, F3, _, δ3, p1.trans p3, q1.trans q3, S3, setN E3, k3⟩⟩
/-- e.given, in the suite -/
theorem we_given {ad : Addr} {g : D} {Z : PX} (c : Caught Y ad C g Z) (E : ErrX Y.X.K C) (h : WE Z e ρ δ fun d δ1 => d = .gl ad ∧ Q g δ1) (hb : attributeBase e "given" Y.X.env (eval e Y.X.env) = eval e Y.X.env := by rfl) : WE Z (.Attribute e "given" pos) ρ δ Q := by
  obtain ⟨oe, pn, γ0, F0, cls, d, rfl, hz, hv, ec, dd, v, ed, hd, rv⟩ := c.zx
  refine .mk fun σ γ F H A => ?_
  refine t_of (pe_xf (X := Y.X) E.xf E.no hz hv pe_sem hb) (h.bind A fun u H1 γ1 F1 d1 δ1 p1 q1 A1 r1 k1 => ?_)
  obtain ⟨rfl, k1⟩ := k1
  have r1' : Rep _ _ _ _ := r1
  rw [Rep] at r1'
  have hF : Same F0 F1 := A1.f
  have hg : γ0 <+: γ1 := A1.g
  exact ⟨r1', ec, dd, _, v, ed, A1.s.sub _ _ (hF _ _ hd), by simp [List.lookup], γ1, F1, g, δ1, p1, q1, A1.s, rv.mono hg hF, k1⟩
end
end PV
namespace PV
open PySem PySem.Spec PyProof.Rows L2
section
variable {K : PySem.W.Frag} {γ : List Addr} {F : Hp} {v : V}
theorem RT.int {i : Int} (h : RT K γ F (.int i) v) : v = .int i := by have h : Rep K F _ _ := h; rw [Rep] at h; exact h
theorem RT.bl {i : Bool} (h : RT K γ F (.bl i) v) : v = .bl i := by have h : Rep K F _ _ := h; rw [Rep] at h; exact h
theorem RT.str {i : Str} (h : RT K γ F (.str i) v) : v = .str i := by have h : Rep K F _ _ := h; rw [Rep] at h; exact h
theorem RT.non (h : RT K γ F .non v) : v = .non := by have h : Rep K F _ _ := h; rw [Rep] at h; exact h
theorem RT.ty {n : String} (h : RT K γ F (.ty n) v) : v = .ty n := by have h : Rep K F _ _ := h; rw [Rep] at h; exact h
theorem RT.gl {a : Addr} (h : RT K γ F (.gl a) v) : v = .ref a := by have h : Rep K F _ _ := h; rw [Rep] at h; exact h
theorem RTs.one {d : D} {xs : List V} (h : RTs K γ F [d] xs) : ∃ x, xs = [x] ∧ RT K γ F d x := by
  obtain ⟨x, r, rfl, h1, h2⟩ := h; cases h2; exact ⟨x, rfl, h1⟩
theorem RTs.two {d e : D} {xs : List V} (h : RTs K γ F [d, e] xs) : ∃ x y, xs = [x, y] ∧ RT K γ F d x ∧ RT K γ F e y := by
  obtain ⟨x, r, rfl, h1, y, r', rfl, h2, h3⟩ := h; cases h3; exact ⟨x, y, rfl, h1, h2⟩
theorem rt_int {i : Int} : RT K γ F (.int i) (.int i) := Rep.rt (by rw [Rep])
theorem rt_bl {i : Bool} : RT K γ F (.bl i) (.bl i) := Rep.rt (by rw [Rep])
theorem rt_str {i : Str} : RT K γ F (.str i) (.str i) := Rep.rt (by rw [Rep])
theorem rt_non : RT K γ F .non .non := Rep.rt (by rw [Rep])
end
section
variable {Y : PX} {ρ : En} {δ : Sto} {σ : L2.St} {γ γ' : List Addr} {F F' H H' N : Hp} {Q : D → Sto → Prop} {op : Operator} {cop : CmpOp} {da db : D} {e a b : Expr} {es : List Expr} {pos p : Pos} {x : Str}
theorem bin_of {r : R2} (ho : OpR Y.X (binaryOp op) r) (h : ∀ σ γ F H x y, At Y γ F H δ σ ρ → RT Y.X.K γ F da x → RT Y.X.K γ F db y → r x y H (Out Y.X.K Y.N γ F Q)) : BinD Y ρ op da db δ Q := .mk fun pins s σ γ F H x y v u I A ra rb rx ry => ho pins s σ H x y v u _ I rx ry (h σ γ F H x y A ra rb)
theorem cmp_of {r : R2} (ho : OpR Y.X (compareOp cop) r) (h : ∀ σ γ F H x y, At Y γ F H δ σ ρ → RT Y.X.K γ F da x → RT Y.X.K γ F db y → r x y H (Out Y.X.K Y.N γ F Q)) : CmpD Y ρ cop da db δ Q := .mk fun pins s σ γ F H x y v u I A ra rb rx ry => ho pins s σ H x y v u _ I rx ry (h σ γ F H x y A ra rb)
theorem un_of {uop : UnaryOp} {r : V → Hp → VK → Prop} (ho : UnR Y.X (unaryOp uop) r) (h : ∀ σ γ F H x, At Y γ F H δ σ ρ → RT Y.X.K γ F da x → r x H (Out Y.X.K Y.N γ F Q)) : UnD Y ρ uop da δ Q := .mk fun pins s σ γ F H x v I A ra rx => ho pins s σ H x v _ I rx (h σ γ F H x A ra)
theorem call_of {f : Value} {ds : List D} {r : List V → Hp → VK → Prop} (ho : CallR Y.X f r) (h : ∀ σ γ F H xs, At Y γ F H δ σ ρ → RTs Y.X.K γ F ds xs → r xs H (Out Y.X.K Y.N γ F Q)) : CallD Y ρ f ds δ Q := .mk fun pins s σ γ F H xs us I A ra rx => ho pins s σ H xs us _ I rx (h σ γ F H xs A ra)
/-! ### ints -/
theorem bin_add {i j : Int} (q : Q (.int (i + j)) δ) : BinD Y ρ .Add (.int i) (.int j) δ Q := bin_of op_add fun σ γ F H x y A ra rb => by
  cases ra.int; cases rb.int; exact ⟨i, j, rfl, rfl, Out.here A.s rt_int q⟩
theorem bin_sub {i j : Int} (q : Q (.int (i - j)) δ) : BinD Y ρ .Sub (.int i) (.int j) δ Q := bin_of op_sub fun σ γ F H x y A ra rb => by
  cases ra.int; cases rb.int; exact ⟨i, j, rfl, rfl, Out.here A.s rt_int q⟩
theorem bin_mul {i j : Int} (h : IntMulOk i j) (q : Q (.int (i * j)) δ) : BinD Y ρ .Mult (.int i) (.int j) δ Q := .mk fun pins s σ γ F H x y v u I A ra rb rx ry => by
  cases ra.int; cases rb.int
  obtain ⟨t, rfl⟩ := rx
  obtain ⟨t', rfl⟩ := ry
  exact mul_int ⟨.int _, H, I.tok _, ⟨_, rfl⟩, Out.here A.s rt_int q⟩ h
theorem bin_mod {i j : Int} (hj : 0 < j) (q : Q (.int (i % j)) δ) : BinD Y ρ .Mod (.int i) (.int j) δ Q := bin_of op_mod fun σ γ F H x y A ra rb => by
  cases ra.int; cases rb.int; exact ⟨i, j, rfl, rfl, hj, Out.here A.s rt_int q⟩
theorem bin_addS {i j : Str} (h : i.length + j.length ≤ sizeLine) (q : Q (.str (i ++ j)) δ) : BinD Y ρ .Add (.str i) (.str j) δ Q := bin_of op_add_str fun σ γ F H x y A ra rb => by
  cases ra.str; cases rb.str; exact ⟨i, j, rfl, rfl, h, Out.here A.s rt_str q⟩
theorem un_negD {i : Int} (q : Q (.int (-i)) δ) : UnD Y ρ .USub (.int i) δ Q := un_of un_neg fun σ γ F H x A ra => by
  cases ra.int; exact ⟨i, rfl, Out.here A.s rt_int q⟩
theorem cmp_lt {i j : Int} (q : Q (.bl (decide (i < j))) δ) : CmpD Y ρ .Lt (.int i) (.int j) δ Q := cmp_of op_lt fun σ γ F H x y A ra rb => by
  cases ra.int; cases rb.int; exact ⟨i, j, rfl, rfl, Out.here A.s rt_bl q⟩
theorem cmp_le {i j : Int} (q : Q (.bl (decide (i ≤ j))) δ) : CmpD Y ρ .LtE (.int i) (.int j) δ Q := cmp_of op_le fun σ γ F H x y A ra rb => by
  cases ra.int; cases rb.int; exact ⟨i, j, rfl, rfl, Out.here A.s rt_bl q⟩
theorem cmp_gt {i j : Int} (q : Q (.bl (decide (j < i))) δ) : CmpD Y ρ .Gt (.int i) (.int j) δ Q := cmp_of op_gt fun σ γ F H x y A ra rb => by
  cases ra.int; cases rb.int; exact ⟨i, j, rfl, rfl, Out.here A.s rt_bl q⟩
theorem cmp_ge {i j : Int} (q : Q (.bl (decide (j ≤ i))) δ) : CmpD Y ρ .GtE (.int i) (.int j) δ Q := cmp_of op_ge fun σ γ F H x y A ra rb => by
  cases ra.int; cases rb.int; exact ⟨i, j, rfl, rfl, Out.here A.s rt_bl q⟩
theorem dec_V {α : Type} [DecidableEq α] {f : α → V} (hf : ∀ a b, f a = f b → a = b) (a b : α) : decide (f a = f b) = decide (a = b) := by
  by_cases h : a = b
  · rw [h]; simp
  · rw [decide_eq_false h, decide_eq_false fun z => h (hf _ _ z)]
theorem cmp_eqI {i j : Int} (q : Q (.bl (decide (i = j))) δ) : CmpD Y ρ .Eq (.int i) (.int j) δ Q := cmp_of op_eq fun σ γ F H x y A ra rb => by
  cases ra.int; cases rb.int; exact ⟨rfl, Out.here A.s rt_bl (by rw [dec_V (f := V.int) (fun _ _ z => by injection z)]; exact q)⟩
theorem cmp_neI {i j : Int} (q : Q (.bl (!decide (i = j))) δ) : CmpD Y ρ .NotEq (.int i) (.int j) δ Q := cmp_of op_ne fun σ γ F H x y A ra rb => by
  cases ra.int; cases rb.int; exact ⟨rfl, Out.here A.s rt_bl (by rw [dec_V (f := V.int) (fun _ _ z => by injection z)]; exact q)⟩
theorem cmp_eqS {i j : Str} (q : Q (.bl (decide (i = j))) δ) : CmpD Y ρ .Eq (.str i) (.str j) δ Q := cmp_of op_eq fun σ γ F H x y A ra rb => by
  cases ra.str; cases rb.str; exact ⟨rfl, Out.here A.s rt_bl (by rw [dec_V (f := V.str) (fun _ _ z => by injection z)]; exact q)⟩
theorem cmp_neS {i j : Str} (q : Q (.bl (!decide (i = j))) δ) : CmpD Y ρ .NotEq (.str i) (.str j) δ Q := cmp_of op_ne fun σ γ F H x y A ra rb => by
  cases ra.str; cases rb.str; exact ⟨rfl, Out.here A.s rt_bl (by rw [dec_V (f := V.str) (fun _ _ z => by injection z)]; exact q)⟩
theorem cmp_eqB {i j : Bool} (q : Q (.bl (decide (i = j))) δ) : CmpD Y ρ .Eq (.bl i) (.bl j) δ Q := cmp_of op_eq fun σ γ F H x y A ra rb => by
  cases ra.bl; cases rb.bl; exact ⟨rfl, Out.here A.s rt_bl (by rw [dec_V (f := V.bl) (fun _ _ z => by injection z)]; exact q)⟩
theorem cmp_neB {i j : Bool} (q : Q (.bl (!decide (i = j))) δ) : CmpD Y ρ .NotEq (.bl i) (.bl j) δ Q := cmp_of op_ne fun σ γ F H x y A ra rb => by
  cases ra.bl; cases rb.bl; exact ⟨rfl, Out.here A.s rt_bl (by rw [dec_V (f := V.bl) (fun _ _ z => by injection z)]; exact q)⟩
/-! ### is None -/
def D.isNon : D → Bool
  | .non => true
  | _ => false
theorem RT.isNon {K : PySem.W.Frag} {γ : List Addr} {F : Hp} {d : D} {v : V} (h : RT K γ F d v) : decide (v = .non) = d.isNon := by
  cases d with
  | al j => obtain ⟨a, _, rfl⟩ := h; rfl
  | _ =>
    have h' : Rep K F _ _ := h
    rw [Rep] at h'
    first
    | (subst h'; rfl)
    | (obtain ⟨_, _, rfl, _⟩ := h'; rfl)
    | (obtain ⟨_, _, _, rfl, _⟩ := h'; rfl)
theorem cmp_isN (q : Q (.bl da.isNon) δ) : CmpD Y ρ .Is da .non δ Q := cmp_of op_isN fun σ γ F H x y A ra rb => by
  cases rb.non; exact ⟨rfl, Out.here A.s rt_bl (by rw [ra.isNon]; exact q)⟩
theorem cmp_notN (q : Q (.bl (!da.isNon)) δ) : CmpD Y ρ .IsNot da .non δ Q := cmp_of op_notN fun σ γ F H x y A ra rb => by
  cases rb.non; exact ⟨rfl, Out.here A.s rt_bl (by rw [ra.isNon]; exact q)⟩
/-! ### truth -/
theorem tru_of {Q : Bool → Sto → Prop} {d : D} (k : Bool) (h : ∀ σ γ F H x, At Y γ F H δ σ ρ → RT Y.X.K γ F d x → TruV Y.X.K x H k) (q : Q k δ) : TruD Y ρ d δ Q := .mk fun pins s σ γ F H x v I A r rx => tru_ok pins s σ H x v _ I rx ⟨k, h σ γ F H x A r, OutB.here A.s q⟩
theorem tru_bl {Q : Bool → Sto → Prop} {b : Bool} (q : Q b δ) : TruD Y ρ (.bl b) δ Q := tru_of b (fun σ γ F H x A r => by cases r.bl; rfl) q
theorem tru_int {Q : Bool → Sto → Prop} {i : Int} (q : Q (i != 0) δ) : TruD Y ρ (.int i) δ Q := tru_of _ (fun σ γ F H x A r => by cases r.int; rfl) q
theorem tru_non {Q : Bool → Sto → Prop} (q : Q false δ) : TruD Y ρ .non δ Q := tru_of _ (fun σ γ F H x A r => by cases r.non; rfl) q
theorem tru_lst {Q : Bool → Sto → Prop} {d : D} {ds : List D} (h : res δ d = .lst ds) (q : Q (!ds.isEmpty) δ) : TruD Y ρ d δ Q := tru_of _ (fun σ γ F H x A r => by
  obtain ⟨a, xs, rfl, h1, h2⟩ := res_lst A.s r h
  refine .inl ⟨xs, h1, ?_⟩
  have := h2.len
  cases ds <;> cases xs <;> simp at this ⊢) q
/-! ### built-ins -/
theorem we_blt {id : String} (hm : Y.X.mg x = none) (h : WA Y (e :: es) ρ δ fun ds δ1 => CallD Y ρ (.builtin id) ds δ1 Q) (hv : bootBuiltins x = some (.builtin id) := by decide +kernel) (hg : Gl Y.X x := by rfl) (hn : x ≠ "__name__" := by decide) (hdb : (x == ("__debug__" : Str)) = false := by decide)
    (he : starEach (e :: es) Y.X.env = (false, eval e Y.X.env) :: starEach es Y.X.env := by rfl) (hpl : (backTo pos (starEach es Y.X.env)).any (·.1) = false := by rfl) : WE Y (.Call (.Name x p) (e :: es) [] pos) ρ δ Q := .mk fun σ γ F H A pins s I => by
  refine wpAny_Call_Name_kw (ld_blt I hg hm hv ?_ hn hdb)
  exact PyProof.Rows.callWith_builtin1 (thn (h.run σ γ F H A pos pins s I) fun us s1 ⟨vs, H1, I1, rv, γ1, F1, ds, δ1, p1, q1, S1, R1, k1⟩ => thn (k1.run pins s1 σ γ1 F1 H1 vs us I1 (A.next p1 q1 S1) R1 rv) fun _ _ z => EP.le p1 q1 z) he hpl
theorem we_blty {T : String} (hm : Y.X.mg x = none) (h : WA Y (e :: es) ρ δ fun ds δ1 => CallD Y ρ (.type T) ds δ1 Q) (hv : bootBuiltins x = some (.type T) := by decide +kernel) (hg : Gl Y.X x := by rfl) (hn : x ≠ "__name__" := by decide) (hdb : (x == ("__debug__" : Str)) = false := by decide)
    (he : starEach (e :: es) Y.X.env = (false, eval e Y.X.env) :: starEach es Y.X.env := by rfl) (hpl : (backTo pos (starEach es Y.X.env)).any (·.1) = false := by rfl) : WE Y (.Call (.Name x p) (e :: es) [] pos) ρ δ Q := .mk fun σ γ F H A pins s I => by
  refine wpAny_Call_Name_kw (ld_blt I hg hm hv ?_ hn hdb)
  exact PyProof.Rows.callWith_type1 (thn (h.run σ γ F H A pos pins s I) fun us s1 ⟨vs, H1, I1, rv, γ1, F1, ds, δ1, p1, q1, S1, R1, k1⟩ => thn (k1.run pins s1 σ γ1 F1 H1 vs us I1 (A.next p1 q1 S1) R1 rv) fun _ _ z => EP.le p1 q1 z) he hpl
/-- a built-in class as a value -/
theorem we_ty {n : String} (hm : Y.X.mg x = none) (q : Q (.ty n) δ) (hv : bootBuiltins x = some (.type n) := by decide +kernel) (hg : Gl Y.X x := by rfl) (hn : x ≠ "__name__" := by decide) (hdb : (x == ("__debug__" : Str)) = false := by decide) : WE Y (.Name x pos) ρ δ Q := .mk fun σ γ F H A =>
  t_of (pe_bltn (v := .ty n) hg hm hv rfl hn hdb) (Out.here A.s (Rep.rt (by rw [Rep])) q)
theorem we_abs (hm : Y.X.mg "abs" = none) (h : WA Y (e :: es) ρ δ fun ds δ1 => CallD Y ρ (.builtin "abs") ds δ1 Q) (hg : Gl Y.X "abs" := by rfl) (he : starEach (e :: es) Y.X.env = (false, eval e Y.X.env) :: starEach es Y.X.env := by rfl) (hpl : (backTo pos (starEach es Y.X.env)).any (·.1) = false := by rfl) : WE Y (.Call (.Name "abs" p) (e :: es) [] pos) ρ δ Q := we_blt hm h (by decide +kernel) hg (by decide) (by decide) he hpl
theorem we_len (hm : Y.X.mg "len" = none) (h : WA Y (e :: es) ρ δ fun ds δ1 => CallD Y ρ (.builtin "len") ds δ1 Q) (hg : Gl Y.X "len" := by rfl) (he : starEach (e :: es) Y.X.env = (false, eval e Y.X.env) :: starEach es Y.X.env := by rfl) (hpl : (backTo pos (starEach es Y.X.env)).any (·.1) = false := by rfl) : WE Y (.Call (.Name "len" p) (e :: es) [] pos) ρ δ Q := we_blt hm h (by decide +kernel) hg (by decide) (by decide) he hpl
theorem we_isinstance (hm : Y.X.mg "isinstance" = none) (h : WA Y (e :: es) ρ δ fun ds δ1 => CallD Y ρ (.builtin "isinstance") ds δ1 Q) (hg : Gl Y.X "isinstance" := by rfl) (he : starEach (e :: es) Y.X.env = (false, eval e Y.X.env) :: starEach es Y.X.env := by rfl) (hpl : (backTo pos (starEach es Y.X.env)).any (·.1) = false := by rfl) : WE Y (.Call (.Name "isinstance" p) (e :: es) [] pos) ρ δ Q := we_blt hm h (by decide +kernel) hg (by decide) (by decide) he hpl
theorem we_all (hm : Y.X.mg "all" = none) (h : WA Y (e :: es) ρ δ fun ds δ1 => CallD Y ρ (.builtin "all") ds δ1 Q) (hg : Gl Y.X "all" := by rfl) (he : starEach (e :: es) Y.X.env = (false, eval e Y.X.env) :: starEach es Y.X.env := by rfl) (hpl : (backTo pos (starEach es Y.X.env)).any (·.1) = false := by rfl) : WE Y (.Call (.Name "all" p) (e :: es) [] pos) ρ δ Q := we_blt hm h (by decide +kernel) hg (by decide) (by decide) he hpl
theorem we_any (hm : Y.X.mg "any" = none) (h : WA Y (e :: es) ρ δ fun ds δ1 => CallD Y ρ (.builtin "any") ds δ1 Q) (hg : Gl Y.X "any" := by rfl) (he : starEach (e :: es) Y.X.env = (false, eval e Y.X.env) :: starEach es Y.X.env := by rfl) (hpl : (backTo pos (starEach es Y.X.env)).any (·.1) = false := by rfl) : WE Y (.Call (.Name "any" p) (e :: es) [] pos) ρ δ Q := we_blt hm h (by decide +kernel) hg (by decide) (by decide) he hpl
theorem we_sorted (hm : Y.X.mg "sorted" = none) (h : WA Y (e :: es) ρ δ fun ds δ1 => CallD Y ρ (.builtin "sorted") ds δ1 Q) (hg : Gl Y.X "sorted" := by rfl) (he : starEach (e :: es) Y.X.env = (false, eval e Y.X.env) :: starEach es Y.X.env := by rfl) (hpl : (backTo pos (starEach es Y.X.env)).any (·.1) = false := by rfl) : WE Y (.Call (.Name "sorted" p) (e :: es) [] pos) ρ δ Q := we_blt hm h (by decide +kernel) hg (by decide) (by decide) he hpl
theorem we_max (hm : Y.X.mg "max" = none) (h : WA Y (e :: es) ρ δ fun ds δ1 => CallD Y ρ (.builtin "max") ds δ1 Q) (hg : Gl Y.X "max" := by rfl) (he : starEach (e :: es) Y.X.env = (false, eval e Y.X.env) :: starEach es Y.X.env := by rfl) (hpl : (backTo pos (starEach es Y.X.env)).any (·.1) = false := by rfl) : WE Y (.Call (.Name "max" p) (e :: es) [] pos) ρ δ Q := we_blt hm h (by decide +kernel) hg (by decide) (by decide) he hpl
theorem we_min (hm : Y.X.mg "min" = none) (h : WA Y (e :: es) ρ δ fun ds δ1 => CallD Y ρ (.builtin "min") ds δ1 Q) (hg : Gl Y.X "min" := by rfl) (he : starEach (e :: es) Y.X.env = (false, eval e Y.X.env) :: starEach es Y.X.env := by rfl) (hpl : (backTo pos (starEach es Y.X.env)).any (·.1) = false := by rfl) : WE Y (.Call (.Name "min" p) (e :: es) [] pos) ρ δ Q := we_blt hm h (by decide +kernel) hg (by decide) (by decide) he hpl
theorem we_sum (hm : Y.X.mg "sum" = none) (h : WA Y (e :: es) ρ δ fun ds δ1 => CallD Y ρ (.builtin "sum") ds δ1 Q) (hg : Gl Y.X "sum" := by rfl) (he : starEach (e :: es) Y.X.env = (false, eval e Y.X.env) :: starEach es Y.X.env := by rfl) (hpl : (backTo pos (starEach es Y.X.env)).any (·.1) = false := by rfl) : WE Y (.Call (.Name "sum" p) (e :: es) [] pos) ρ δ Q := we_blt hm h (by decide +kernel) hg (by decide) (by decide) he hpl
theorem we_repr (hm : Y.X.mg "repr" = none) (h : WA Y (e :: es) ρ δ fun ds δ1 => CallD Y ρ (.builtin "repr") ds δ1 Q) (hg : Gl Y.X "repr" := by rfl) (he : starEach (e :: es) Y.X.env = (false, eval e Y.X.env) :: starEach es Y.X.env := by rfl) (hpl : (backTo pos (starEach es Y.X.env)).any (·.1) = false := by rfl) : WE Y (.Call (.Name "repr" p) (e :: es) [] pos) ρ δ Q := we_blt hm h (by decide +kernel) hg (by decide) (by decide) he hpl
theorem we_iter (hm : Y.X.mg "iter" = none) (h : WA Y (e :: es) ρ δ fun ds δ1 => CallD Y ρ (.builtin "iter") ds δ1 Q) (hg : Gl Y.X "iter" := by rfl) (he : starEach (e :: es) Y.X.env = (false, eval e Y.X.env) :: starEach es Y.X.env := by rfl) (hpl : (backTo pos (starEach es Y.X.env)).any (·.1) = false := by rfl) : WE Y (.Call (.Name "iter" p) (e :: es) [] pos) ρ δ Q := we_blt hm h (by decide +kernel) hg (by decide) (by decide) he hpl
theorem we_intT (hm : Y.X.mg "int" = none) (h : WA Y (e :: es) ρ δ fun ds δ1 => CallD Y ρ (.type "int") ds δ1 Q) (hg : Gl Y.X "int" := by rfl) (he : starEach (e :: es) Y.X.env = (false, eval e Y.X.env) :: starEach es Y.X.env := by rfl) (hpl : (backTo pos (starEach es Y.X.env)).any (·.1) = false := by rfl) : WE Y (.Call (.Name "int" p) (e :: es) [] pos) ρ δ Q := we_blty hm h (by decide +kernel) hg (by decide) (by decide) he hpl
theorem we_intV (hm : Y.X.mg "int" = none) (q : Q (.ty "int") δ) (hg : Gl Y.X "int" := by rfl) : WE Y (.Name "int" pos) ρ δ Q := we_ty hm q (by decide +kernel) hg (by decide) (by decide)
theorem we_boolT (hm : Y.X.mg "bool" = none) (h : WA Y (e :: es) ρ δ fun ds δ1 => CallD Y ρ (.type "bool") ds δ1 Q) (hg : Gl Y.X "bool" := by rfl) (he : starEach (e :: es) Y.X.env = (false, eval e Y.X.env) :: starEach es Y.X.env := by rfl) (hpl : (backTo pos (starEach es Y.X.env)).any (·.1) = false := by rfl) : WE Y (.Call (.Name "bool" p) (e :: es) [] pos) ρ δ Q := we_blty hm h (by decide +kernel) hg (by decide) (by decide) he hpl
theorem we_boolV (hm : Y.X.mg "bool" = none) (q : Q (.ty "bool") δ) (hg : Gl Y.X "bool" := by rfl) : WE Y (.Name "bool" pos) ρ δ Q := we_ty hm q (by decide +kernel) hg (by decide) (by decide)
theorem we_strT (hm : Y.X.mg "str" = none) (h : WA Y (e :: es) ρ δ fun ds δ1 => CallD Y ρ (.type "str") ds δ1 Q) (hg : Gl Y.X "str" := by rfl) (he : starEach (e :: es) Y.X.env = (false, eval e Y.X.env) :: starEach es Y.X.env := by rfl) (hpl : (backTo pos (starEach es Y.X.env)).any (·.1) = false := by rfl) : WE Y (.Call (.Name "str" p) (e :: es) [] pos) ρ δ Q := we_blty hm h (by decide +kernel) hg (by decide) (by decide) he hpl
theorem we_strV (hm : Y.X.mg "str" = none) (q : Q (.ty "str") δ) (hg : Gl Y.X "str" := by rfl) : WE Y (.Name "str" pos) ρ δ Q := we_ty hm q (by decide +kernel) hg (by decide) (by decide)
theorem we_listT (hm : Y.X.mg "list" = none) (h : WA Y (e :: es) ρ δ fun ds δ1 => CallD Y ρ (.type "list") ds δ1 Q) (hg : Gl Y.X "list" := by rfl) (he : starEach (e :: es) Y.X.env = (false, eval e Y.X.env) :: starEach es Y.X.env := by rfl) (hpl : (backTo pos (starEach es Y.X.env)).any (·.1) = false := by rfl) : WE Y (.Call (.Name "list" p) (e :: es) [] pos) ρ δ Q := we_blty hm h (by decide +kernel) hg (by decide) (by decide) he hpl
theorem we_listV (hm : Y.X.mg "list" = none) (q : Q (.ty "list") δ) (hg : Gl Y.X "list" := by rfl) : WE Y (.Name "list" pos) ρ δ Q := we_ty hm q (by decide +kernel) hg (by decide) (by decide)
theorem we_tupleT (hm : Y.X.mg "tuple" = none) (h : WA Y (e :: es) ρ δ fun ds δ1 => CallD Y ρ (.type "tuple") ds δ1 Q) (hg : Gl Y.X "tuple" := by rfl) (he : starEach (e :: es) Y.X.env = (false, eval e Y.X.env) :: starEach es Y.X.env := by rfl) (hpl : (backTo pos (starEach es Y.X.env)).any (·.1) = false := by rfl) : WE Y (.Call (.Name "tuple" p) (e :: es) [] pos) ρ δ Q := we_blty hm h (by decide +kernel) hg (by decide) (by decide) he hpl
theorem we_tupleV (hm : Y.X.mg "tuple" = none) (q : Q (.ty "tuple") δ) (hg : Gl Y.X "tuple" := by rfl) : WE Y (.Name "tuple" pos) ρ δ Q := we_ty hm q (by decide +kernel) hg (by decide) (by decide)
theorem we_dictT (hm : Y.X.mg "dict" = none) (h : WA Y (e :: es) ρ δ fun ds δ1 => CallD Y ρ (.type "dict") ds δ1 Q) (hg : Gl Y.X "dict" := by rfl) (he : starEach (e :: es) Y.X.env = (false, eval e Y.X.env) :: starEach es Y.X.env := by rfl) (hpl : (backTo pos (starEach es Y.X.env)).any (·.1) = false := by rfl) : WE Y (.Call (.Name "dict" p) (e :: es) [] pos) ρ δ Q := we_blty hm h (by decide +kernel) hg (by decide) (by decide) he hpl
theorem we_dictV (hm : Y.X.mg "dict" = none) (q : Q (.ty "dict") δ) (hg : Gl Y.X "dict" := by rfl) : WE Y (.Name "dict" pos) ρ δ Q := we_ty hm q (by decide +kernel) hg (by decide) (by decide)
theorem we_setT (hm : Y.X.mg "set" = none) (h : WA Y (e :: es) ρ δ fun ds δ1 => CallD Y ρ (.type "set") ds δ1 Q) (hg : Gl Y.X "set" := by rfl) (he : starEach (e :: es) Y.X.env = (false, eval e Y.X.env) :: starEach es Y.X.env := by rfl) (hpl : (backTo pos (starEach es Y.X.env)).any (·.1) = false := by rfl) : WE Y (.Call (.Name "set" p) (e :: es) [] pos) ρ δ Q := we_blty hm h (by decide +kernel) hg (by decide) (by decide) he hpl
theorem we_setV (hm : Y.X.mg "set" = none) (q : Q (.ty "set") δ) (hg : Gl Y.X "set" := by rfl) : WE Y (.Name "set" pos) ρ δ Q := we_ty hm q (by decide +kernel) hg (by decide) (by decide)
/-- a class or def of the module as a value -/
theorem we_gl {ad : Addr} (hm : Y.X.mg x = some (.ref ad)) (q : Q (.gl ad) δ) (hg : Gl Y.X x := by rfl) (hdb : (x == ("__debug__" : Str)) = false := by decide) : WE Y (.Name x pos) ρ δ Q := .mk fun σ γ F H A =>
  t_of (pe_glob (v := .ref ad) hg hm rfl hdb) (Out.here A.s (Rep.rt (by rw [Rep])) q)
theorem c_abs {i : Int} (q : Q (.int (i.natAbs : Nat)) δ) : CallD Y ρ (.builtin "abs") [.int i] δ Q := call_of call_abs fun σ γ F H xs A r => by
  obtain ⟨x, rfl, r1⟩ := r.one
  cases r1.int
  refine ⟨i, rfl, Out.here A.s rt_int ?_⟩
  have : (if i < 0 then -i else i) = (i.natAbs : Int) := by split <;> omega
  rw [this]; exact q
theorem c_int {i : Int} (q : Q (.int i) δ) : CallD Y ρ (.type "int") [.int i] δ Q := call_of call_int1 fun σ γ F H xs A r => by
  obtain ⟨x, rfl, r1⟩ := r.one
  cases r1.int
  exact .inl ⟨i, rfl, Out.here A.s rt_int q⟩
theorem c_intB {i : Bool} (q : Q (.int (if i then 1 else 0)) δ) : CallD Y ρ (.type "int") [.bl i] δ Q := call_of call_int1 fun σ γ F H xs A r => by
  obtain ⟨x, rfl, r1⟩ := r.one
  cases r1.bl
  exact .inr ⟨i, rfl, Out.here A.s rt_int q⟩
theorem c_boolI {i : Int} (q : Q (.bl (i != 0)) δ) : CallD Y ρ (.type "bool") [.int i] δ Q := call_of call_bool1 fun σ γ F H xs A r => by
  obtain ⟨x, rfl, r1⟩ := r.one
  cases r1.int
  exact .inl ⟨i, rfl, Out.here A.s rt_bl q⟩
/-! ### isinstance -/
/-- what isinstance asks of an own class -/
structure InsT (K : PySem.W.Frag) (C : Addr) : Prop where
  cl : Cls K C
  ha : PySem.W.findIn K (.ref C) "__class__" = some (some (.builtin "object.__class__"))
  hn : PySem.W.specialIn K (.builtin "object.__class__") "__get__" = some (some (.builtin "getset_descriptor.__get__"))
  htk : PySem.W.takesIn K (.builtin "object.__class__") = some true
  hm : PySem.W.mroIn K C (.type "object") = some true
/-- the type of a datum (an instance: its class, with InsT) -/
inductive TyD (K : PySem.W.Frag) (δ : Sto) : D → Value → Prop
  | non : TyD K δ .non (.type "NoneType")
  | bl (b : Bool) : TyD K δ (.bl b) (.type "bool")
  | int (i : Int) : TyD K δ (.int i) (.type "int")
  | str (x : Str) : TyD K δ (.str x) (.type "str")
  | lst {d : D} {ds : List D} (h : res δ d = .lst ds) : TyD K δ d (.type "list")
  | tup {ds : List D} : TyD K δ (.tup ds) (.type "tuple")
  | dct {d : D} {ks : List Key} {ds : List D} (h : res δ d = .dct ks ds) : TyD K δ d (.type "dict")
  | ins {d : D} {C : Addr} {ns : List Str} {ds : List D} (h : res δ d = .ins C ns ds) (t : InsT K C) : TyD K δ d (.ref C)
theorem TyD.tx {K : PySem.W.Frag} {d : D} {t : Value} {v : V} (h : TyD K δ d t) (S : RepS K N γ F H δ) (r : RT K γ F d v) : TyX K H v t := by
  cases h with
  | non => cases r.non; exact .base .non
  | bl b => cases r.bl; exact .base (.bl b)
  | int i => cases r.int; exact .base (.int i)
  | str x => cases r.str; exact .base (.str x)
  | lst h =>
    obtain ⟨a, xs, rfl, h1, h2⟩ := res_lst S r h
    rcases h1 with (h1 | ⟨o, h1⟩) | ⟨o, its, n, hk, hc, _⟩
    · exact .base (.lst h1)
    · exact .base (.frz h1)
    · exact .kList hk hc
  | tup =>
    obtain ⟨a, xs, rfl, h1, h2, _⟩ := res_tup S r rfl
    rcases h1 with (h1 | ⟨o, h1⟩) | ⟨o, its, n, hk, hc, _⟩
    · exact .base (.tup h1)
    · exact .fTuple h1
    · exact .kTuple hk hc
  | dct h =>
    obtain ⟨a, xs, rfl, h1, h2⟩ := res_dct S r h
    rcases h1 with h1 | ⟨o, h1⟩
    · exact .base (.dK h1)
    · exact .fDict h1
  | ins h t =>
    obtain ⟨a, dx, xs, rfl, h1, h2⟩ := res_ins S r h
    exact .base (.ins h1 t.cl t.ha t.hn t.htk t.hm)
theorem c_isi {d : D} {n : String} {t : Value} {b : Bool} (h : TyD Y.X.K δ d t) (hk : PySem.W.kitOne Y.X.K t (.type n) = some b) (q : Q (.bl b) δ) : CallD Y ρ (.builtin "isinstance") [d, .ty n] δ Q := call_of call_isi fun σ γ F H xs A r => by
  obtain ⟨x, y, rfl, r1, r2⟩ := r.two
  cases r2.ty
  exact ⟨x, _, t, _, b, rfl, .ty n, h.tx A.s r1, hk, Out.here A.s rt_bl q⟩
theorem c_isiO {d : D} {C : Addr} {t : Value} {b : Bool} (h : TyD Y.X.K δ d t) (hk : PySem.W.kitOne Y.X.K t (.ref C) = some b) (q : Q (.bl b) δ) : CallD Y ρ (.builtin "isinstance") [d, .gl C] δ Q := call_of call_isi fun σ γ F H xs A r => by
  obtain ⟨x, y, rfl, r1, r2⟩ := r.two
  cases r2.gl
  exact ⟨x, _, t, _, b, rfl, .own C, h.tx A.s r1, hk, Out.here A.s rt_bl q⟩
end
end PV
namespace PV
open PySem PySem.Spec PyProof.Rows L2
section
variable {P : Program} {w : World} {K : PySem.W.Frag} {mg : Str → Option Value} {base : Heap}
/-- what a def's body is to show -/
def BodyOk (P : Program) (w : World) (K : PySem.W.Frag) (mg : Str → Option Value) (base : Heap) (qual : Str) (st : Stmt) (f : Addr) (N : List Str) (k : Nat) (S : DSp) : Prop := ∀ (cdv : Value) (A : Around) (outer : List Env) (s : Shared) (H : Hp) (E : XK) (Nf : Hp) (γ : List Addr) (F : Hp) (T : XD) (tk : Takes (bodyX P w K mg base N qual (defScope st) f cdv A outer s H E) (OutW K Nf γ F fun C g _ δ => T C g δ)) (po : PassesOwn (model P w) (bodyX P w K mg base N qual (defScope st) f cdv A outer s H E).A (bodyX P w K mg base N qual (defScope st) f cdv A outer s H E).env (bodyX P w K mg base N qual (defScope st) f cdv A outer s H E).xe) (ds : List D) (δ : Sto) (R : RK) (T0 : XD),
      T = (fun C => Harv δ.length (T0 C)) → Room k (A.deeper (envOfC qual (defScope st) s.heap.objs.size f cdv)) → Scoped δ → S ds δ R T0 →
      WSs ⟨bodyX P w K mg base N qual (defScope st) f cdv A outer s H E, γ, F, Nf, fun C g _ δ => T C g δ, tk, po⟩ (defBody st) (startD N ds) δ ⟨fun _ δ' => Harv δ.length R .non δ', Harv δ.length R, fun _ _ => False, fun _ _ => False⟩
theorem fun_ok {x qual : Str} {st : Stmt} {f : Addr} {fd : FuncData} {N ps : List Str} {k : Nat} {S : DSp} (F : Fun K x qual st f fd) (SC : FnScope N ps (defScope st)) (len : ∀ ds δ R T, S ds δ R T → ds.length = ps.length) (hb : BodyOk P w K mg base qual st f N k S) : FnOk P w K mg base (L2.CX P w) (k + 1) f fd ps (spOf K S) := by
  obtain ⟨oc, od, kV, doc, pm, an, cdv, ct, osl, rfl, lk, hcd⟩ := F.ex
  exact fn_ok lk hcd SC len (hb cdv)
theorem fund_ok {x qual : Str} {st : Stmt} {f : Addr} {fd : FuncData} {N ps : List Str} {k : Nat} {S : DSp} {dvs : List V} {kds : List (Str × V)} (F : FunD K x qual (defArgs st) (defBody st) (defScope st) dvs kds f fd) (SC : FnScope N ps (defScope st)) (len : ∀ ds δ R T, S ds δ R T → ds.length = ps.length) (hb : BodyOk P w K mg base qual st f N k S) : FnOk P w K mg base (L2.CX P w) (k + 1) f fd ps (spOf K S) := by
  obtain ⟨oc, od, dV, kV, doc, pm, an, cdv, ct, osl, rfl, lk, hcd, _⟩ := F.ex
  exact fn_ok lk hcd SC len (hb cdv)
theorem harv {R : RK} {d : D} {δ : Sto} (sc : Scoped δ) (h : R d δ) (hd : d.isAl = false := by rfl) : Harv δ.length R d δ := .here (Nat.le_refl _) sc (fun k e => by rw [e] at hd; cases hd) h
end
section
variable {Y : PX} {ρ : En} {δ : Sto} {e : Expr} {pos : Pos} {Q : D → Sto → Prop} {T : DE}
/-- names found by the list of names -/
theorem we_name {x : Str} {i : Nat} {d : D} (hN : Y.X.N.idxOf? x = some i) (h : ρ[i]? = some (some d)) (q : Q d δ) (hn : Y.X.N[i]? = some x := by rfl) (hv : Vis Y.X.env.scope x := by first | exact Or.inl rfl | exact Or.inr (Or.inl rfl) | exact Or.inr (Or.inr rfl)) (hd : (x == ("__debug__" : Str)) = false := by decide)
    (hcd : (x == ("__classdict__" : Str)) = false := by decide) : WE Y (.Name x pos) ρ δ Q := we_var i h q hn hv hd hcd
/-- x = e -/
theorem ws_let {x : Str} {i : Nat} {p' : Pos} (nd : Y.X.N.Nodup) (hN : Y.X.N.idxOf? x = some i) (h : WE Y e ρ δ fun d δ1 => T.nx (ρ.set i (some d)) δ1) (hi : Y.X.N[i]? = some x := by rfl) (hx : Loc Y.X.env.scope x := by first | exact Or.inl rfl | exact Or.inr rfl) (hs : swapsWith e (some (.Name x p')) pos.line Y.X.env = pure false := by rfl)
    (hf : Y.X.fn x = true ∨ Y.X.env.scope.names.lookup x = some .local := by first | exact .inl rfl | exact .inr rfl) : WS Y (.Assign [.Name x p'] e pos) ρ δ T := ws_set i h nd hi hx hs hf
/-- x, y = a, b -/
theorem ws_par {x y : Str} {i j : Nat} {a b : Expr} {px py pt : Pos} {kt k2 pt2} (hc : Y.X.calm = true) (nd : Y.X.N.Nodup) (hNi : Y.X.N.idxOf? x = some i) (hNj : Y.X.N.idxOf? y = some j) (h : WA Y [a, b] ρ δ fun ds δ1 => ∃ d e, ds = [d, e] ∧ T.nx ((ρ.set i (some d)).set j (some e)) δ1) (hi : Y.X.N[i]? = some x := by rfl) (hj : Y.X.N[j]? = some y := by rfl) (hij : i ≠ j := by decide)
    (hx : Y.X.env.scope.names.lookup x = some .local := by rfl) (hy : Y.X.env.scope.names.lookup y = some .local := by rfl)
    (hw : swappedStores [.Tuple [.Name x px, .Name y py] kt pt] (.Tuple [a, b] k2 pt2) Y.X.env = pure (some [x, y]) := by rfl)
    (hs : swapsWithSole [.Tuple [.Name x px, .Name y py] kt pt] (.Tuple [a, b] k2 pt2) pos.line Y.X.env = pure false := by rfl) :
    WS Y (.Assign [.Tuple [.Name x px, .Name y py] kt pt] (.Tuple [a, b] k2 pt2) pos) ρ δ T := .mk fun σ γ F H A => s_of (ps_par hc nd hi hj hij hx hy pa_sem hw hs) (h.bind A fun vs H1 γ1 F1 ds δ1 p1 q1 A1 r1 ⟨d, e, ed, k1⟩ => by
  subst ed
  obtain ⟨v, w, rfl, rv, rw'⟩ := r1.two
  exact ⟨v, w, rfl, γ1, F1, _, δ1, p1, q1, A1.s, (A1.e.set rv).set rw', k1⟩)
end
end PV
namespace GQ2
open PySem PySem.SeqAt
open AutoSeq1 (wpAny_loadPart')
open MeetsSeq MeetsSeq2 MeetsSeq3 SeqRoads2
open GQ (FinOf call_here)
section
variable {prog : Program} {w : World} {A : Around} {R : Result → Shared → Prop}
/-- at each turn the two lists are read anew: N items each; the i-th two are equal or not -/
def ListB (prog : Program) (w : World) (A : Around) (E : Value → Shared → Prop) (l b : Addr) (N : Nat) (I : Nat → Shared → Prop) (J : Shared → Prop) : Prop :=
  (∀ i s, I i s → ∃ (items items2 : Array Value) (n n2 : Nat) (dd dd2 : Option Addr) (sl sl2 : Array (Option Value)), s.heap.get? l = some { cls := .type "list", dict := dd, data := .seq items n, slots := sl } ∧ s.heap.get? b = some { cls := .type "list", dict := dd2, data := .seq items2 n2, slots := sl2 } ∧ items.size = N ∧ items2.size = N ∧
    ∀ (h1 : i < items.size) (h2 : i < items2.size), wpAny (model prog w) A.in1 (eqBool items[i] items2[i]) (fun r s' => (r = true → I (i + 1) s') ∧ (r = false → J s')) E s) ∧
  (∀ s, J s → ∃ (items items2 : Array Value) (n n2 : Nat) (dd dd2 : Option Addr) (sl sl2 : Array (Option Value)), s.heap.get? l = some { cls := .type "list", dict := dd, data := .seq items n, slots := sl } ∧ s.heap.get? b = some { cls := .type "list", dict := dd2, data := .seq items2 n2, slots := sl2 } ∧ items.size = N ∧ items2.size = N)
/-- the code of ==, of != -/
def opCode (ne : Bool) : Int := if ne then 3 else 2
theorem eq_loopB (ne : Bool) (l b : Addr) (N : Nat) (I : Nat → Shared → Prop) (J : Shared → Prop) (hl : ListB prog w A (fun e s' => R (.error e) s') l b N I J)
    (fin : ∀ s, I N s → R (.ok (.ret (.bool (!ne)))) s) (finJ : ∀ s, J s → R (.ok (.ret (.bool ne))) s) (k : Nat) :
    ∀ i : Nat, N - i = k → i ≤ N → ∀ s, I i s →
      wpAny (model prog w) A.in1 (Builtin.«list.__eq__.loop» ⟨[.ref l, .ref b, rawInt i, rawInt (opCode ne)], []⟩) (FinOf prog w A R) (fun e s' => R (.error e) s') s := by
  induction k with
  | zero =>
    intro i hk hi s h
    obtain ⟨items, items2, n, n2, dd, dd2, sl, sl2, hl1, hb1, hs1, hs2, _⟩ := hl.1 _ _ h
    have hi' : i = N := by omega
    have hR : R (.ok (.ret (.bool (!ne)))) s := fin s (hi' ▸ h)
    obtain ⟨hp, g, d, tk, os⟩ := s
    cases ne
    · wp_walk using wpAny_loadPart' hl1, wpAny_loadPart' hb1
      have hi1 : items[((i : Nat) : Int).toNat]? = none := by simp; omega
      have hi2 : items2[((i : Nat) : Int).toNat]? = none := by simp; omega
      rw [hi1, hi2]
      wp_walk using wpAny_loadPart' hl1, wpAny_loadPart' hb1
      show R (.ok (.ret (.bool (items.size == items2.size)))) _
      rw [hs1, hs2]
      simpa using hR
    · wp_walk using wpAny_loadPart' hl1, wpAny_loadPart' hb1
      have hi1 : items[((i : Nat) : Int).toNat]? = none := by simp; omega
      have hi2 : items2[((i : Nat) : Int).toNat]? = none := by simp; omega
      rw [hi1, hi2]
      wp_walk using wpAny_loadPart' hl1, wpAny_loadPart' hb1
      show R (.ok (.ret (.bool (items.size != items2.size)))) _
      rw [hs1, hs2]
      simpa using hR
  | succ k ih =>
    intro i hk hi s h
    obtain ⟨items, items2, n, n2, dd, dd2, sl, sl2, hl1, hb1, hs1, hs2, turn⟩ := hl.1 _ _ h
    have hlt : i < items.size := by omega
    have hlt2 : i < items2.size := by omega
    have ht := turn hlt hlt2
    obtain ⟨hp, g, d, tk, os⟩ := s
    have hi1 : items[((i : Nat) : Int).toNat]? = some items[i] := by simp [hlt]
    have hi2 : items2[((i : Nat) : Int).toNat]? = some items2[i] := by simp [hlt2]
    have hc : ((i : Int) + 1) = ((i + 1 : Nat) : Int) := by omega
    cases ne
    · wp_walk using wpAny_loadPart' hl1, wpAny_loadPart' hb1
      rw [hi1, hi2]
      refine wpAny_bind (wpAny_mono ht (fun r s2 h2 => ?_) fun _ _ x => x)
      cases r with
      | true =>
        have hrec := ih (i + 1) (by omega) (by omega) s2 (h2.1 rfl)
        obtain ⟨hp2, g2, d2, tk2, os2⟩ := s2
        wp_walk
        rw [hc]
        exact ⟨plainId_quiet plain_eq_loop _, codeAny_builtin entry_eq_loop (by
          rw [Around.under_plainId plain_eq_loop _]
          exact hrec)⟩
      | false =>
        have hJ := h2.2 rfl
        obtain ⟨it, it2, m, m2, dd', dd2', sl', sl2', j1, j2, j3, j4⟩ := hl.2 _ hJ
        have hR := finJ s2 hJ
        obtain ⟨hp2, g2, d2, tk2, os2⟩ := s2
        have q1 : it[((i : Nat) : Int).toNat]? = some it[i] := by simp [show i < it.size by omega]
        have q2 : it2[((i : Nat) : Int).toNat]? = some it2[i] := by simp [show i < it2.size by omega]
        wp_walk using wpAny_loadPart' j1, wpAny_loadPart' j2
        rw [q1, q2]
        wp_walk
        exact hR
    · wp_walk using wpAny_loadPart' hl1, wpAny_loadPart' hb1
      rw [hi1, hi2]
      refine wpAny_bind (wpAny_mono ht (fun r s2 h2 => ?_) fun _ _ x => x)
      cases r with
      | true =>
        have hrec := ih (i + 1) (by omega) (by omega) s2 (h2.1 rfl)
        obtain ⟨hp2, g2, d2, tk2, os2⟩ := s2
        wp_walk
        rw [hc]
        exact ⟨plainId_quiet plain_eq_loop _, codeAny_builtin entry_eq_loop (by
          rw [Around.under_plainId plain_eq_loop _]
          exact hrec)⟩
      | false =>
        have hJ := h2.2 rfl
        obtain ⟨it, it2, m, m2, dd', dd2', sl', sl2', j1, j2, j3, j4⟩ := hl.2 _ hJ
        have hR := finJ s2 hJ
        obtain ⟨hp2, g2, d2, tk2, os2⟩ := s2
        have q1 : it[((i : Nat) : Int).toNat]? = some it[i] := by simp [show i < it.size by omega]
        have q2 : it2[((i : Nat) : Int).toNat]? = some it2[i] := by simp [show i < it2.size by omega]
        wp_walk using wpAny_loadPart' j1, wpAny_loadPart' j2
        rw [q1, q2]
        wp_walk
        exact hR
end
end GQ2
namespace GQ2
open PySem PySem.SeqAt
open AutoSeq1 (wpAny_loadPart')
open MeetsSeq MeetsSeq2 MeetsSeq3 SeqRoads2
open GQ (FinOf call_here)
section
variable {prog : Program} {w : World} {A : Around} {R : Result → Shared → Prop}
theorem list_eqB (l b : Addr) (N : Nat) (I : Nat → Shared → Prop) (J : Shared → Prop) (hl : ListB prog w A (fun e s' => R (.error e) s') l b N I J)
    (fin : ∀ s, I N s → R (.ok (.ret (.bool true))) s) (finJ : ∀ s, J s → R (.ok (.ret (.bool false))) s) {s : Shared} (h : I 0 s) :
    wpAny (model prog w) A.in1 (Builtin.«list.__eq__» ⟨[.ref l, .ref b], []⟩) (FinOf prog w A R) (fun e s' => R (.error e) s') s := by
  obtain ⟨items, items2, n, n2, dd, dd2, sl, sl2, hl1, hb1, hs1, hs2, _⟩ := hl.1 _ _ h
  have hrec := eq_loopB (A := A) (R := R) false l b N I J hl fin finJ _ 0 rfl (Nat.zero_le _) s h
  obtain ⟨hp, g, d, tk, os⟩ := s
  have f3 := AutoSeq1.sub_list_list
  have hne : ¬ (items.size != items2.size) = true := by simp [hs1, hs2]
  wp_walk using wpAny_loadPart' hl1, wpAny_loadPart' hb1
  exact ⟨plainId_quiet plain_eq_loop _, codeAny_builtin entry_eq_loop (by
    rw [Around.under_plainId plain_eq_loop _]
    exact hrec)⟩
theorem list_neB (l b : Addr) (N : Nat) (I : Nat → Shared → Prop) (J : Shared → Prop) (hl : ListB prog w A (fun e s' => R (.error e) s') l b N I J)
    (fin : ∀ s, I N s → R (.ok (.ret (.bool false))) s) (finJ : ∀ s, J s → R (.ok (.ret (.bool true))) s) {s : Shared} (h : I 0 s) :
    wpAny (model prog w) A.in1 (Builtin.«list.__ne__» ⟨[.ref l, .ref b], []⟩) (FinOf prog w A R) (fun e s' => R (.error e) s') s := by
  obtain ⟨items, items2, n, n2, dd, dd2, sl, sl2, hl1, hb1, hs1, hs2, _⟩ := hl.1 _ _ h
  have hrec := eq_loopB (A := A) (R := R) true l b N I J hl fin finJ _ 0 rfl (Nat.zero_le _) s h
  obtain ⟨hp, g, d, tk, os⟩ := s
  have f3 := AutoSeq1.sub_list_list
  have hne : ¬ (items.size != items2.size) = true := by simp [hs1, hs2]
  wp_walk using wpAny_loadPart' hl1, wpAny_loadPart' hb1
  exact ⟨plainId_quiet plain_eq_loop _, codeAny_builtin entry_eq_loop (by
    rw [Around.under_plainId plain_eq_loop _]
    exact hrec)⟩
theorem list_eqL (l b : Addr) {items items2 : Array Value} {n n2 : Nat} {dd dd2 : Option Addr} {sl sl2 : Array (Option Value)} {s : Shared} (hl1 : s.heap.get? l = some { cls := .type "list", dict := dd, data := .seq items n, slots := sl }) (hb1 : s.heap.get? b = some { cls := .type "list", dict := dd2, data := .seq items2 n2, slots := sl2 }) (hs : items.size ≠ items2.size)
    (fin : R (.ok (.ret (.bool false))) s) : wpAny (model prog w) A.in1 (Builtin.«list.__eq__» ⟨[.ref l, .ref b], []⟩) (FinOf prog w A R) (fun e s' => R (.error e) s') s := by
  obtain ⟨hp, g, d, tk, os⟩ := s
  have f3 := AutoSeq1.sub_list_list
  have hne : (items.size != items2.size) = true := by simp [hs]
  wp_walk using wpAny_loadPart' hl1, wpAny_loadPart' hb1
  exact fin
theorem list_neL (l b : Addr) {items items2 : Array Value} {n n2 : Nat} {dd dd2 : Option Addr} {sl sl2 : Array (Option Value)} {s : Shared} (hl1 : s.heap.get? l = some { cls := .type "list", dict := dd, data := .seq items n, slots := sl }) (hb1 : s.heap.get? b = some { cls := .type "list", dict := dd2, data := .seq items2 n2, slots := sl2 }) (hs : items.size ≠ items2.size)
    (fin : R (.ok (.ret (.bool true))) s) : wpAny (model prog w) A.in1 (Builtin.«list.__ne__» ⟨[.ref l, .ref b], []⟩) (FinOf prog w A R) (fun e s' => R (.error e) s') s := by
  obtain ⟨hp, g, d, tk, os⟩ := s
  have f3 := AutoSeq1.sub_list_list
  have hne : (items.size != items2.size) = true := by simp [hs]
  wp_walk using wpAny_loadPart' hl1, wpAny_loadPart' hb1
  exact fin
end
end GQ2
namespace GQ2
open PySem PySem.SeqAt
open AutoSeq1 (wpAny_loadPart')
open MeetsSeq MeetsSeq2 MeetsSeq3 SeqRoads2
open GQ (FinOf call_here)
section
variable {prog : Program} {w : World} {A : Around} {R : Result → Shared → Prop}
theorem tup_eqB (l b : Addr) (items items2 : Array Value) (n n2 : Nat) (dd dd2 : Option Addr) (sl sl2 : Array (Option Value)) (I : Nat → Shared → Prop) (J : Shared → Prop)
    (turn : ∀ i (h1 : i < items.size) (h2 : i < items2.size) s, I i s → wpAny (model prog w) A.in1 (eqBool items[i] items2[i]) (fun r s' => (r = true → I (i + 1) s') ∧ (r = false → J s')) (fun e s' => R (.error e) s') s)
    (fin : ∀ s, I (min items.size items2.size) s → R (.ok (.ret (.bool (items.size == items2.size)))) s) (finJ : ∀ s, J s → R (.ok (.ret (.bool false))) s) {s : Shared} (hl1 : s.heap.get? l = some { cls := .type "tuple", dict := dd, data := .seq items n, slots := sl }) (hb1 : s.heap.get? b = some { cls := .type "tuple", dict := dd2, data := .seq items2 n2, slots := sl2 }) (h : I 0 s) :
    wpAny (model prog w) A.in1 (Builtin.«tuple.__eq__» ⟨[.ref l, .ref b], []⟩) (FinOf prog w A R) (fun e s' => R (.error e) s') s := by
  have f2 := AutoSeq1.sub_tuple_tuple
  have hZ : (items.toList.zip items2.toList).length = min items.size items2.size := by simp
  have h0 := h
  obtain ⟨hp, g, d, tk, os⟩ := s
  wp_walk using wpAny_loadPart' hl1, wpAny_loadPart' hb1, wpAny_forIn_list _ (fun rest b s' => b.1 = none ∧ ∃ i, rest = (items.toList.zip items2.toList).drop i ∧ i ≤ min items.size items2.size ∧ I i s') _
  case turn =>
    rintro ⟨y, x⟩ rest b s' ⟨hb', i, hz, hi, hI⟩
    have hlt : i < (items.toList.zip items2.toList).length := by
      rcases Nat.lt_or_ge i (items.toList.zip items2.toList).length with h' | h'
      · exact h'
      · rw [List.drop_of_length_le h'] at hz; cases hz
    have h12 : i < min items.size items2.size := hZ ▸ hlt
    have h1 : i < items.size := by omega
    have h2 : i < items2.size := by omega
    rw [List.drop_eq_getElem_cons hlt] at hz
    injection hz with hyx hrest
    have hy : y = items[i] := by have := congrArg Prod.fst hyx; simpa using this
    have hx : x = items2[i] := by have := congrArg Prod.snd hyx; simpa using this
    subst hy hx
    refine wpAny_bind (wpAny_mono (turn i h1 h2 s' hI) (fun r s2 q2 => ?_) fun _ _ x => x)
    cases r with
    | true =>
      have q3 := q2.1 rfl
      wp_walk
      exact ⟨rfl, i + 1, hrest, by omega, q3⟩
    | false =>
      have q3 := finJ _ (q2.2 rfl)
      wp_walk
      exact q3
  case fin =>
    rintro ⟨b1, b2⟩ s' ⟨hb', i, hz, hi, hI⟩
    simp only at hb'
    subst hb'
    have hge : min items.size items2.size ≤ i := by
      rcases Nat.lt_or_ge i (items.toList.zip items2.toList).length with h' | h'
      · rw [List.drop_eq_getElem_cons h'] at hz; cases hz
      · exact hZ ▸ h'
    have hi' : i = min items.size items2.size := by omega
    have hR := fin s' (hi' ▸ hI)
    wp_walk
    simpa [Builtin.Tuple.tupleCompareSizes] using hR
  case h =>
    exact ⟨rfl, 0, rfl, Nat.zero_le _, h0⟩
theorem tup_neB (l b : Addr) (items items2 : Array Value) (n n2 : Nat) (dd dd2 : Option Addr) (sl sl2 : Array (Option Value)) (I : Nat → Shared → Prop) (J : Shared → Prop)
    (turn : ∀ i (h1 : i < items.size) (h2 : i < items2.size) s, I i s → wpAny (model prog w) A.in1 (eqBool items[i] items2[i]) (fun r s' => (r = true → I (i + 1) s') ∧ (r = false → J s')) (fun e s' => R (.error e) s') s)
    (fin : ∀ s, I (min items.size items2.size) s → R (.ok (.ret (.bool (items.size != items2.size)))) s) (finJ : ∀ s, J s → R (.ok (.ret (.bool true))) s) {s : Shared} (hl1 : s.heap.get? l = some { cls := .type "tuple", dict := dd, data := .seq items n, slots := sl }) (hb1 : s.heap.get? b = some { cls := .type "tuple", dict := dd2, data := .seq items2 n2, slots := sl2 }) (h : I 0 s) :
    wpAny (model prog w) A.in1 (Builtin.«tuple.__ne__» ⟨[.ref l, .ref b], []⟩) (FinOf prog w A R) (fun e s' => R (.error e) s') s := by
  have f2 := AutoSeq1.sub_tuple_tuple
  have hZ : (items.toList.zip items2.toList).length = min items.size items2.size := by simp
  have h0 := h
  obtain ⟨hp, g, d, tk, os⟩ := s
  wp_walk using wpAny_loadPart' hl1, wpAny_loadPart' hb1, wpAny_forIn_list _ (fun rest b s' => b.1 = none ∧ ∃ i, rest = (items.toList.zip items2.toList).drop i ∧ i ≤ min items.size items2.size ∧ I i s') _
  case turn =>
    rintro ⟨y, x⟩ rest b s' ⟨hb', i, hz, hi, hI⟩
    have hlt : i < (items.toList.zip items2.toList).length := by
      rcases Nat.lt_or_ge i (items.toList.zip items2.toList).length with h' | h'
      · exact h'
      · rw [List.drop_of_length_le h'] at hz; cases hz
    have h12 : i < min items.size items2.size := hZ ▸ hlt
    have h1 : i < items.size := by omega
    have h2 : i < items2.size := by omega
    rw [List.drop_eq_getElem_cons hlt] at hz
    injection hz with hyx hrest
    have hy : y = items[i] := by have := congrArg Prod.fst hyx; simpa using this
    have hx : x = items2[i] := by have := congrArg Prod.snd hyx; simpa using this
    subst hy hx
    refine wpAny_bind (wpAny_mono (turn i h1 h2 s' hI) (fun r s2 q2 => ?_) fun _ _ x => x)
    cases r with
    | true =>
      have q3 := q2.1 rfl
      wp_walk
      exact ⟨rfl, i + 1, hrest, by omega, q3⟩
    | false =>
      have q3 := finJ _ (q2.2 rfl)
      wp_walk
      exact q3
  case fin =>
    rintro ⟨b1, b2⟩ s' ⟨hb', i, hz, hi, hI⟩
    simp only at hb'
    subst hb'
    have hge : min items.size items2.size ≤ i := by
      rcases Nat.lt_or_ge i (items.toList.zip items2.toList).length with h' | h'
      · rw [List.drop_eq_getElem_cons h'] at hz; cases hz
      · exact hZ ▸ h'
    have hi' : i = min items.size items2.size := by omega
    have hR := fin s' (hi' ▸ hI)
    wp_walk
    simpa [Builtin.Tuple.tupleCompareSizes] using hR
  case h =>
    exact ⟨rfl, 0, rfl, Nat.zero_le _, h0⟩
end
section
variable {prog : Program} {w : World} {A : Around} {E : Value → Shared → Prop} {s : Shared}
/-- == (ne = false), != (ne = true) of two lists of one length -/
theorem rc_listB (ne : Bool) {l b : Addr} {N : Nat} {Q : Value → Shared → Prop} (hu : A.units < cLine) (I : Nat → Shared → Prop) (J : Shared → Prop) (hl : ListB prog w A E l b N I J)
    (fin : ∀ s, I N s → Q (.bool (!ne)) s) (finJ : ∀ s, J s → Q (.bool ne) s) (h : I 0 s) : wpAny (model prog w) A (richCompare (if ne then .NotEq else .Eq) (.ref l) (.ref b)) Q E s := by
  obtain ⟨items, items2, n, n2, dd, dd2, sl, sl2, hl1, hb1, _, _, _⟩ := hl.1 _ _ h
  cases ne
  · refine wpAny_richCompare_same_room (op := .Eq) ⟨_, hl1, rfl⟩ ⟨_, hb1, rfl⟩ F.slot_list_eq (call_here F.slot_list_eq ⟨_, hl1, rfl⟩ F.entry_list_eq (F.args_list_eq_2 _ _) ?_) hu
    exact list_eqB (R := wants (fun v s' => v ≠ .notImplemented ∧ Q v s') E) l b N I J hl (fun s' q => ⟨(fun x => nomatch x), fin s' q⟩) (fun s' q => ⟨(fun x => nomatch x), finJ s' q⟩) h
  · refine wpAny_richCompare_same_room (op := .NotEq) ⟨_, hl1, rfl⟩ ⟨_, hb1, rfl⟩ F.slot_list_ne (call_here F.slot_list_ne ⟨_, hl1, rfl⟩ F.entry_list_ne (F.args_list_ne_2 _ _) ?_) hu
    exact list_neB (R := wants (fun v s' => v ≠ .notImplemented ∧ Q v s') E) l b N I J hl (fun s' q => ⟨(fun x => nomatch x), fin s' q⟩) (fun s' q => ⟨(fun x => nomatch x), finJ s' q⟩) h
theorem rc_listL (ne : Bool) {l b : Addr} {items items2 : Array Value} {n n2 : Nat} {dd dd2 : Option Addr} {sl sl2 : Array (Option Value)} {Q : Value → Shared → Prop} (hu : A.units < cLine) (hl1 : s.heap.get? l = some { cls := .type "list", dict := dd, data := .seq items n, slots := sl }) (hb1 : s.heap.get? b = some { cls := .type "list", dict := dd2, data := .seq items2 n2, slots := sl2 }) (hs : items.size ≠ items2.size)
    (fin : Q (.bool ne) s) : wpAny (model prog w) A (richCompare (if ne then .NotEq else .Eq) (.ref l) (.ref b)) Q E s := by
  cases ne
  · refine wpAny_richCompare_same_room (op := .Eq) ⟨_, hl1, rfl⟩ ⟨_, hb1, rfl⟩ F.slot_list_eq (call_here F.slot_list_eq ⟨_, hl1, rfl⟩ F.entry_list_eq (F.args_list_eq_2 _ _) ?_) hu
    exact list_eqL (R := wants (fun v s' => v ≠ .notImplemented ∧ Q v s') E) l b hl1 hb1 hs ⟨(fun x => nomatch x), fin⟩
  · refine wpAny_richCompare_same_room (op := .NotEq) ⟨_, hl1, rfl⟩ ⟨_, hb1, rfl⟩ F.slot_list_ne (call_here F.slot_list_ne ⟨_, hl1, rfl⟩ F.entry_list_ne (F.args_list_ne_2 _ _) ?_) hu
    exact list_neL (R := wants (fun v s' => v ≠ .notImplemented ∧ Q v s') E) l b hl1 hb1 hs ⟨(fun x => nomatch x), fin⟩
theorem rc_tupB (ne : Bool) {l b : Addr} {items items2 : Array Value} {Q : Value → Shared → Prop} (hu : A.units < cLine) (I : Nat → Shared → Prop) (J : Shared → Prop)
    (hl : s.heap.IsTuple l items) (hb : s.heap.IsTuple b items2)
    (turn : ∀ i (h1 : i < items.size) (h2 : i < items2.size) s, I i s → wpAny (model prog w) A.in1 (eqBool items[i] items2[i]) (fun r s' => (r = true → I (i + 1) s') ∧ (r = false → J s')) E s)
    (fin : ∀ s, I (min items.size items2.size) s → Q (.bool (ne ^^ (items.size == items2.size))) s) (finJ : ∀ s, J s → Q (.bool ne) s) (h : I 0 s) : wpAny (model prog w) A (richCompare (if ne then .NotEq else .Eq) (.ref l) (.ref b)) Q E s := by
  obtain ⟨⟨cls, dd, data, sl⟩, ho, hc, n, hd⟩ := id hl
  obtain ⟨⟨cls2, dd2, data2, sl2⟩, ho2, hc2, n2, hd2⟩ := id hb
  simp only at hc hd hc2 hd2
  subst hc hd hc2 hd2
  cases ne
  · refine wpAny_richCompare_same_room (op := .Eq) ⟨_, ho, rfl⟩ ⟨_, ho2, rfl⟩ F.slot_tuple_eq (call_here F.slot_tuple_eq ⟨_, ho, rfl⟩ F.entry_tuple_eq (F.args_tuple_eq_2 _ _) ?_) hu
    exact tup_eqB (R := wants (fun v s' => v ≠ .notImplemented ∧ Q v s') E) l b items items2 n n2 dd dd2 sl sl2 I J turn (fun s' q => ⟨(fun x => nomatch x), by simpa using fin s' q⟩) (fun s' q => ⟨(fun x => nomatch x), finJ s' q⟩) ho ho2 h
  · refine wpAny_richCompare_same_room (op := .NotEq) ⟨_, ho, rfl⟩ ⟨_, ho2, rfl⟩ F.slot_tuple_ne (call_here F.slot_tuple_ne ⟨_, ho, rfl⟩ F.entry_tuple_ne (F.args_tuple_ne_2 _ _) ?_) hu
    exact tup_neB (R := wants (fun v s' => v ≠ .notImplemented ∧ Q v s') E) l b items items2 n n2 dd dd2 sl sl2 I J turn (fun s' q => ⟨(fun x => nomatch x), by simpa [bne] using fin s' q⟩) (fun s' q => ⟨(fun x => nomatch x), finJ s' q⟩) ho ho2 h
end
end GQ2
namespace WW
open PySem PySem.Spec PyProof.Rows L2
def TyE (K : PySem.W.Frag) (C : Addr) (H : Hp) (y : V) (t : Value) : Prop := (∃ (b dy : Addr) (gs : List (Str × V)), y = .ref b ∧ H b = some (.ins C dy gs) ∧ t = .ref C) ∨ TyX K H y t
theorem tyE_looks {X : Cx} {C : Addr} {pins : List (Addr × Obj)} {σ : L2.St} {H : Hp} {s : Shared} {y : V} {u t : Value} (I : L2.Inv X pins σ H s) (ry : L2.RelV y u) (ty : TyE X.K C H y t) (M : Model) : PySem.W.Looks M s.heap (typeOf u) t := by
  rcases ty with ⟨b, dy, gs, rfl, hb, rfl⟩ | ty
  · cases ry
    obtain ⟨mB, J, _⟩ := ins_get I.hok hb
    obtain ⟨od, J, _⟩ := J.look
    exact J.type
  · obtain ⟨P, Z, p, _⟩ := kit_of I ry ty
    exact Z.ty M s.heap I.kIn p
section
open PySem.W
variable {prog : Program} {w : World} {A : Around} {E : Value → Shared → Prop} {s : Shared} {K : Frag} {x C L f : Addr} {h₀ : Heap} {m : Str → Option Value} {ox : Obj} {od : Option Obj} {b tb : Value}
theorem neCall {Q : Value → Shared → Prop} (hu : A.units + 1 < cLine) (X : K.In s.heap) (I : InstAt s.heap x ox C od) (hob : mroIn K C (.type "object") = some true)
    (hs : findIn K (.ref C) "__eq__" = some (some (.ref f))) (hf : isFn K (.ref f) = true)
    (h : wpAny (model prog w) A.in1 (call (.ref f) [.ref x, b]) (fun v s' => ∃ k, v = .bool k ∧ Q (.bool (!k)) s') E s) : wpAny (model prog w) A (call (.builtin "object.__ne__") [.ref x, b]) Q E s := by
  have sub : Looks (model prog w) s.heap (isInstance (.ref x) (.type "object")) true := I.type.andThen (looks_mroIn X hob)
  refine wpAny_call (codeAny_call_builtin (by decide +kernel) F.cmpEntry_ne (check_slot F.cmpKind_ne F.cmpSplit_ne sub (F.cmpArgs_ne _ _) ?_))
  unfold Builtin.«object.__ne__»
  repeat (first
    | with_reducible refine wpAny_cRoomFor hu ?_
    | (refine wpAny_bind (m := callSpecialIfBound? (.ref x) (Str.ofString "__eq__") [b]) (ifBound_K X I hs hf (wpAny_mono h (fun r s' hr => by
          obtain ⟨k, rfl, hq⟩ := hr
          repeat (first | exact hq | exact wpAny_pure hq | exact wpAny_truthy_bool hq | (refine wpAny_bind (m := truthy (.bool _)) (wpAny_truthy_bool ?_)) | wp_step)) fun _ _ e => e)))
    | wp_step)
theorem ne_own {Q : Value → Shared → Prop} (hu : A.units + 1 < cLine) (X : K.In s.heap) (I : InstAt s.heap x ox C od) (hb : Looks (model prog w) s.heap (typeOf b) tb) (hn : notFirst K C tb = true) (hob : mroIn K C (.type "object") = some true)
    (hne : findIn K (.ref C) "__ne__" = some (some (.builtin "object.__ne__"))) (hs : findIn K (.ref C) "__eq__" = some (some (.ref f))) (hf : isFn K (.ref f) = true)
    (h : wpAny (model prog w) A.in1 (call (.ref f) [.ref x, b]) (fun v s' => ∃ k, v = .bool k ∧ Q (.bool (!k)) s') E s) : wpAny (model prog w) A (richCompare .NotEq (.ref x) b) Q E s := by
  have one : wpAny (model prog w) A (tryCompare (.ref x) (cmpInfo .NotEq).2.1 b) (fun r s' => ∃ v, r = some v ∧ Q v s') E s := by
    unfold tryCompare
    have fin : wpAny (model prog w) A (call (.builtin "object.__ne__") ([.ref x] ++ [b]) >>= fun v => pure (some v)) (fun r s' => ∃ k, r = some (Value.bool k) ∧ Q (.bool k) s') E s :=
      wpAny_bind (neCall (Q := fun v s' => wpAny (model prog w) A (pure (some v)) _ E s') hu X I hob hs hf (wpAny_mono h (fun v s' h' => by
        obtain ⟨k, e, q⟩ := h'
        exact ⟨k, e, wpAny_pure ⟨_, rfl, q⟩⟩) fun _ _ h' => h'))
    refine wpAny_bind (wpAny_mono (Q := fun r s' => ∃ k, r = some (Value.bool k) ∧ Q (.bool k) s') (E := E) ?_ (fun r s' hr => ?_) fun _ _ e => e)
    · simp only [callSpecialIfBound?, bindSpecialIfBound?]
      refine wpAny_holding (wpAny_bind (wpAny_bind (wpAny_bind (I.type.here ((looks_findIn X hne).here ?_)))))
      refine wpAny_bind (wpAny_askSetting (wpAny_ite ?_))
      have hbd : bindSpecial (.builtin "object.__ne__") (.ref x) = pure (.builtin "object.__ne__", [.ref x]) := F.slot_zip_ne.bind _
      split
      · rw [hbd]
        exact wpAny_bind (wpAny_pure (wpAny_pure (by exact fin)))
      · rw [hbd]
        exact wpAny_tryCatch (wpAny_bind (wpAny_pure (wpAny_pure (by exact fin))))
    · obtain ⟨k, rfl, q⟩ := hr
      exact wpAny_pure ⟨_, rfl, q⟩
  unfold richCompare
  simp only [oneThing_ref]
  refine wpAny_holding (wpAny_bind (wpAny_cRoomFor (by omega) ?_))
  refine wpAny_bind (I.type.here (wpAny_bind (hb.here ?_)))
  split
  · rename_i q
    have e : subIn K tb (.ref C) = some false := by
      rcases Bool.or_eq_true_iff.mp hn with e | e
      · rw [beq_iff_eq.mp e] at q; simp at q
      · exact beq_iff_eq.mp e
    refine wpAny_bind ((looks_subIn X e).here ?_)
    simp only [Bool.false_eq_true, if_false]
    refine wpAny_bind (wpAny_mono one (fun r s' z => ?_) fun _ _ e => e)
    obtain ⟨v, rfl, hq⟩ := z
    exact wpAny_pure hq
  · refine wpAny_bind (wpAny_pure ?_)
    simp only [Bool.false_eq_true, if_false]
    refine wpAny_bind (wpAny_mono one (fun r s' z => ?_) fun _ _ e => e)
    obtain ⟨v, rfl, hq⟩ := z
    exact wpAny_pure hq
end
end WW
namespace PV
open PySem PySem.Spec PyProof.Rows L2
/-- somewhere below the running body, with room -/
structure Ar (X : Cx) (n : Nat) (A : Around) : Prop where
  room : Room n A
  fr : A.frames = some X.stack
theorem Ar.in1 {X : Cx} {n : Nat} {A : Around} (a : Ar X (n + 1) A) : Ar X n A.in1 := ⟨a.room.in1, a.fr⟩
theorem Ar.mono {X : Cx} {n m : Nat} {A : Around} (a : Ar X n A) (h : m ≤ n) : Ar X m A := ⟨a.room.mono h, a.fr⟩
theorem Ar.env0 {X : Cx} {n : Nat} {A : Around} {pins : List (Addr × Obj)} {σ : L2.St} {H : Hp} {s : Shared} (a : Ar X n A) (I : L2.Inv X pins σ H s) : Env0 X.prog X.w X.K X.mg X.base A X.stack s H :=
  ⟨a.fr, I.ok.mod, I.bs, Nat.le_trans I.ok.bsz I.sz, I.stack, I.stkFree, I.hok, I.bare⟩
section
variable {Y : PX} {ρ : En} {δ : Sto} {σ : L2.St} {γ γ' : List Addr} {F F' H H' : Hp} {Q : D → Sto → Prop} {k n : Nat} {f C : Addr} {fd : FuncData} {ps : List Str} {S : DSp} {ds : List Value} {dvs : List V} {dds : List D} {da db : D}
/-- a def is called, here or below -/
theorem call_at {A' : Around} {pins : List (Addr × Obj)} {s : Shared} {us : List Value} {vs : List V} {as : List D} (G : FnOk Y.X.prog Y.X.w Y.X.K Y.X.mg Y.X.base (L2.CX Y.X.prog Y.X.w) k f fd ps (spOf Y.X.K S)) (ar : Ar Y.X k A') (hb : L2.Binds Y.X.K fd ps ds) (hd : Vals dvs ds) (hR : ∀ F, Reps Y.X.K F dds dvs)
    (I : L2.Inv Y.X pins σ H s) (A : At Y γ F H δ σ ρ) (r : RTs Y.X.K γ F as vs) (rv : Vals vs us) (h : S (as ++ dds) δ Q fun C g δ' => Y.T C g ρ δ') : wpAny (model Y.X.prog Y.X.w) A' (call (.ref f) us) (EP Y.X pins σ (Out Y.X.K Y.N γ F Q)) Y.X.xe s := by
  have sp := sp_call A r hR h (R := Out Y.X.K Y.N γ F Q) fun v H' z => z
  have r2 := rv.append hd
  have hl : (us ++ ds).length = ps.length := by rw [← r2.length]; exact G.len _ _ _ _ sp
  refine wpAny_call (codeAny_mono (G.run A' Y.X.stack s H ⟨us, []⟩ (us ++ ds) (vs ++ dvs) _ _ ar.room (ar.env0 I) (hb s us I.kIn hl) r2 sp) fun r s' hq => ?_)
  cases r with
  | error e => exact passAt Y.tk σ pins H s e s' I hq
  | ok fl =>
    cases fl with
    | ret u => exact I.after hq
    | next => exact False.elim hq
    | brk => exact False.elim hq
    | cont => exact False.elim hq
/-! ### deep == -/
/-- what a comparison leaves: the store is as it was -/
def Left (Y : PX) (pins : List (Addr × Obj)) (σ : L2.St) (γ : List Addr) (F : Hp) (δ : Sto) (s' : Shared) : Prop := ∃ F' H', L2.Inv Y.X pins σ H' s' ∧ Same F F' ∧ RepS Y.X.K Y.N γ F' H' δ
/-- within a built-in the two are found equal (b), or not -/
structure EqB (Y : PX) (n : Nat) (ρ : En) (da db : D) (δ : Sto) (b : Bool) : Prop where
  run : ∀ A' pins s σ γ F H x y u v, Ar Y.X n A' → L2.Inv Y.X pins σ H s → At Y γ F H δ σ ρ → RT Y.X.K γ F da x → RT Y.X.K γ F db y → RelV x u → RelV y v →
    wpAny (model Y.X.prog Y.X.w) A' (eqBool u v) (fun r s' => r = b ∧ Left Y pins σ γ F δ s') Y.X.xe s
  same : ∀ γ F v, RT Y.X.K γ F da v → RT Y.X.K γ F db v → b = true
/-- .. by == (ne = false), != (ne = true) -/
structure RcB (Y : PX) (n : Nat) (ρ : En) (ne : Bool) (da db : D) (δ : Sto) (b : Bool) : Prop where
  run : ∀ A' pins s σ γ F H x y u v, Ar Y.X n A' → L2.Inv Y.X pins σ H s → At Y γ F H δ σ ρ → RT Y.X.K γ F da x → RT Y.X.K γ F db y → RelV x u → RelV y v →
    wpAny (model Y.X.prog Y.X.w) A' (richCompare (if ne then .NotEq else .Eq) u v) (fun r s' => r = .bool (ne ^^ b) ∧ Left Y pins σ γ F δ s') Y.X.xe s
theorem EqB.mono {b : Bool} (h : EqB Y n ρ da db δ b) {m : Nat} (hn : n ≤ m) : EqB Y m ρ da db δ b := ⟨fun A' pins s σ γ F H x y u v ar => h.run A' pins s σ γ F H x y u v (ar.mono hn), h.same⟩
theorem RcB.mono {b ne : Bool} (h : RcB Y n ρ ne da db δ b) {m : Nat} (hn : n ≤ m) : RcB Y m ρ ne da db δ b := ⟨fun A' pins s σ γ F H x y u v ar => h.run A' pins s σ γ F H x y u v (ar.mono hn)⟩
/-- == as an expression -/
theorem cmp_eqR {b : Bool} (h : RcB Y n ρ false da db δ b) (hr : Room n Y.X.A) (q : Q (.bl b) δ) : CmpD Y ρ .Eq da db δ Q := .mk fun pins s σ γ F H x y v u I A ra rb rx ry => by
  refine thn (h.run Y.X.A pins s σ γ F H x y v u ⟨hr, I.ok.frames⟩ I A ra rb rx ry) fun r s' ⟨hb, F', H', I', sm, S⟩ => ?_
  subst hb
  exact ⟨.bl b, H', I', by simp [L2.RelV], γ, F', .bl b, δ, pre_refl, sm, S, rt_bl, q⟩
theorem cmp_neR {b : Bool} (h : RcB Y n ρ true da db δ b) (hr : Room n Y.X.A) (q : Q (.bl (!b)) δ) : CmpD Y ρ .NotEq da db δ Q := .mk fun pins s σ γ F H x y v u I A ra rb rx ry => by
  refine thn (h.run Y.X.A pins s σ γ F H x y v u ⟨hr, I.ok.frames⟩ I A ra rb rx ry) fun r s' ⟨hb, F', H', I', sm, S⟩ => ?_
  subst hb
  exact ⟨.bl (!b), H', I', by simp [L2.RelV], γ, F', .bl (!b), δ, pre_refl, sm, S, rt_bl, q⟩
/-- two things by reference -/
theorem eqB_ref {b : Bool} (h : RcB Y n ρ false da db δ b) (ha : ∀ γ F H N v, RepS Y.X.K N γ F H δ → RT Y.X.K γ F da v → ∃ a, v = .ref a) (hb : ∀ γ F H N v, RepS Y.X.K N γ F H δ → RT Y.X.K γ F db v → ∃ a, v = .ref a)
    (hs : ∀ γ F v, RT Y.X.K γ F da v → RT Y.X.K γ F db v → b = true) : EqB Y n ρ da db δ b := by
  refine ⟨fun A' pins s σ γ F H x y u v ar I A ra rb rx ry => ?_, hs⟩
  obtain ⟨a1, rfl⟩ := ha _ _ _ _ _ A.s ra
  obtain ⟨a2, rfl⟩ := hb _ _ _ _ _ A.s rb
  cases rx
  cases ry
  by_cases hab : a1 = a2
  · subst hab
    exact SeqAt.EqAt.same (A := A') (s := s) (.ref a1) Y.X.prog Y.X.w Y.X.xe _ ⟨(hs _ _ _ ra rb).symm, F, H, I, Same.refl _, A.s⟩
  · refine GQ.eqBool_refG hab (wpAny_mono (h.run A' pins s σ γ F H _ _ _ _ ar I A ra rb rfl rfl) (fun r s' z => ?_) fun _ _ x => x)
    obtain ⟨hr', z⟩ := z
    exact ⟨b, by rw [hr']; simp, rfl, z⟩
/-! scalars -/
def D.flat : D → Option V
  | .non => some .non
  | .bl b => some (.bl b)
  | .int i => some (.int i)
  | .str x => some (.str x)
  | _ => none
theorem RT.flat {K : PySem.W.Frag} {d : D} {v w : V} (r : RT K γ F d v) (h : d.flat = some w) : v = w ∧ flatV w = true := by
  cases d with
  | non => cases r.non; cases h; exact ⟨rfl, rfl⟩
  | bl b => cases r.bl; cases h; exact ⟨rfl, rfl⟩
  | int i => cases r.int; cases h; exact ⟨rfl, rfl⟩
  | str x => cases r.str; cases h; exact ⟨rfl, rfl⟩
  | _ => cases h
theorem eqB_flat {x y : V} (hx : da.flat = some x) (hy : db.flat = some y) : EqB Y 0 ρ da db δ (eqV x y) := by
  refine ⟨fun A' pins s σ γ F H x' y' u v ar I A ra rb rx ry => ?_, fun γ F v ra rb => ?_⟩
  · obtain ⟨rfl, fx⟩ := ra.flat hx
    obtain ⟨rfl, fy⟩ := rb.flat hy
    exact eqAt_V rx ry fx fy _ _ _ _ ⟨rfl, F, H, I, Same.refl _, A.s⟩
  · obtain ⟨rfl, fx⟩ := ra.flat hx
    obtain ⟨rfl, fy⟩ := rb.flat hy
    cases v with
    | non => rfl
    | bl b => simp [eqV]
    | int i => simp [eqV]
    | str x => simp [eqV]
    | _ => cases fx
/-! lists -/
/-- what lists of data give, item by item -/
def allB : List D → List D → (D → D → Bool) → Bool
  | d :: ds, e :: es, f => f d e && allB ds es f
  | _, _, _ => true
theorem RTs.samev {K' : PySem.W.Frag} : ∀ {ds es : List D} {xs : List V} {f : D → D → Bool}, RTs K' γ F ds xs → RTs K' γ F es xs → (∀ d ∈ ds, ∀ e ∈ es, ∀ v, RT K' γ F d v → RT K' γ F e v → f d e = true) → allB ds es f = true
  | [], es, xs, f, r, r', h => by simp [allB]
  | d :: ds, [], xs, f, r, r', h => by simp [allB]
  | d :: ds, e :: es, xs, f, ⟨x, t, ex, r1, r2⟩, ⟨x', t', ex', r1', r2'⟩, h => by
    subst ex
    cases ex'
    rw [allB, h d (by simp) e (by simp) x r1 r1', RTs.samev r2 r2' fun d hd e he => h d (by simp [hd]) e (by simp [he])]
    rfl
theorem allB_get : ∀ {ds es : List D} {f : D → D → Bool} {i : Nat} {d e : D}, allB (ds.take i) (es.take i) f = true → ds[i]? = some d → es[i]? = some e → f d e = false → allB ds es f = false
  | d0 :: ds, e0 :: es, f, 0, d, e, h, h1, h2, h3 => by simp at h1 h2; subst h1; subst h2; rw [allB, h3]; rfl
  | d0 :: ds, e0 :: es, f, i + 1, d, e, h, h1, h2, h3 => by
    simp at h1 h2
    rw [List.take_succ_cons, List.take_succ_cons, allB, Bool.and_eq_true] at h
    rw [allB, h.1, allB_get h.2 h1 h2 h3]; rfl
  | [], _, _, _, _, _, _, h1, _, _ => by simp at h1
  | _ :: _, [], _, _, _, _, _, _, h2, _ => by simp at h2
theorem allB_take : ∀ {ds es : List D} {f : D → D → Bool} {i : Nat} {d e : D}, allB (ds.take i) (es.take i) f = true → ds[i]? = some d → es[i]? = some e → f d e = true → allB (ds.take (i + 1)) (es.take (i + 1)) f = true
  | d0 :: ds, e0 :: es, f, 0, d, e, h, h1, h2, h3 => by simp at h1 h2; subst h1; subst h2; simp [allB, h3]
  | d0 :: ds, e0 :: es, f, i + 1, d, e, h, h1, h2, h3 => by
    simp at h1 h2
    rw [List.take_succ_cons, List.take_succ_cons, allB, Bool.and_eq_true] at h
    rw [List.take_succ_cons, List.take_succ_cons, allB, h.1, allB_take h.2 h1 h2 h3]; rfl
  | [], _, _, _, _, _, _, h1, _, _ => by simp at h1
  | _ :: _, [], _, _, _, _, _, _, h2, _ => by simp at h2
theorem allB_min : ∀ {ds es : List D} {f : D → D → Bool}, allB (ds.take (min ds.length es.length)) (es.take (min ds.length es.length)) f = allB ds es f
  | [], es, f => by simp [allB]
  | d :: ds, [], f => by simp [allB]
  | d :: ds, e :: es, f => by
    have : min (d :: ds).length (e :: es).length = min ds.length es.length + 1 := by simp
    rw [this, List.take_succ_cons, List.take_succ_cons, allB, allB, allB_min]
/-- a turn: the i-th two -/
theorem turnB {A' : Around} {pins : List (Addr × Obj)} {ds1 es1 : List D} {f : D → D → Bool} (h : ∀ (i : Nat) d e, ds1[i]? = some d → es1[i]? = some e → EqB Y n ρ d e δ (f d e)) (ar : Ar Y.X (n + 1) A') (A : At Y γ F H δ σ ρ) {s' : Shared} {xs ys : List V} {its its2 : List Value}
    (r : Vals xs its) (r2 : Vals ys its2) {i : Nat} (h1 : i < its.toArray.size) (h2 : i < its2.toArray.size) (q : ∃ F' H', L2.Inv Y.X pins σ H' s' ∧ Same F F' ∧ RepS Y.X.K Y.N γ F' H' δ ∧ RTs Y.X.K γ F' ds1 xs ∧ RTs Y.X.K γ F' es1 ys ∧ allB (ds1.take i) (es1.take i) f = true) :
    wpAny (model Y.X.prog Y.X.w) A'.in1 (eqBool its.toArray[i] its2.toArray[i]) (fun r s'' => (r = true → Left Y pins σ γ F δ s'' ∧ allB (ds1.take (i + 1)) (es1.take (i + 1)) f = true) ∧ (r = false → Left Y pins σ γ F δ s'' ∧ allB ds1 es1 f = false)) Y.X.xe s' := by
  obtain ⟨F1, H1, I1, sm, S1, R1, R2, al⟩ := q
  have g1 : i < its.length := by simpa using h1
  have g2 : i < its2.length := by simpa using h2
  have e1 : its[i]? = some its.toArray[i] := by simp [g1]
  have e2 : its2[i]? = some its2.toArray[i] := by simp [g2]
  obtain ⟨x, hx⟩ : ∃ x, xs[i]? = some x := ⟨_, List.getElem?_eq_getElem (by rw [r.length]; exact g1)⟩
  obtain ⟨y, hy⟩ : ∃ y, ys[i]? = some y := ⟨_, List.getElem?_eq_getElem (by rw [r2.length]; exact g2)⟩
  obtain ⟨u, hu, ru⟩ := r.get hx
  obtain ⟨v, hv, rv⟩ := r2.get hy
  rw [e1] at hu; cases hu
  rw [e2] at hv; cases hv
  obtain ⟨d, hd, rd⟩ := R1.at hx
  obtain ⟨e, he, re⟩ := R2.at hy
  refine thn ((h i d e hd he).run A'.in1 pins s' σ γ F1 H1 x y _ _ ar.in1 I1 (A.next pre_refl sm S1) rd re ru rv) fun rr s2 ⟨hr, F2, H2, I2, sm2, S2⟩ => ?_
  subst hr
  refine ⟨fun hf => ⟨⟨F2, H2, I2, sm.trans sm2, S2⟩, allB_take al hd he hf⟩, fun hf => ⟨⟨F2, H2, I2, sm.trans sm2, S2⟩, allB_get al hd he hf⟩⟩
/-- a list's object in the heap -/
theorem lstObj {a : Addr} {xs : List V} {pins : List (Addr × Obj)} {X : Cx} {s : Shared} (I : L2.Inv X pins σ H s) (h : SqL X.K H a xs) : ∃ its n dd sl, Vals xs its ∧ s.heap.get? a = some { cls := .type "list", dict := dd, data := .seq its.toArray n, slots := sl } := by
  obtain ⟨its, r, ⟨⟨c, dd, dt, sl⟩, n, e, hc, hd, hs⟩, hz⟩ := I.list h
  simp only at hc hd hs
  subst hc hd hs
  exact ⟨its, n, _, sl, r, e⟩
theorem rcB_lst {ds1 es1 : List D} {f : D → D → Bool} (ne : Bool) (hda : res δ da = .lst ds1) (hdb : res δ db = .lst es1)
    (h : ds1.length = es1.length → ∀ (i : Nat) d e, ds1[i]? = some d → es1[i]? = some e → EqB Y n ρ d e δ (f d e)) : RcB Y (n + 1) ρ ne da db δ (decide (ds1.length = es1.length) && allB ds1 es1 f) := by
  refine ⟨fun A' pins s σ γ F H x y u v ar I A ra rb rx ry => ?_⟩
  obtain ⟨a, xs, rfl, h1, h2⟩ := res_lst A.s ra hda
  obtain ⟨b, ys, rfl, g1, g2⟩ := res_lst A.s rb hdb
  cases rx
  cases ry
  obtain ⟨its, m, dd, sl, r, e⟩ := lstObj I h1
  obtain ⟨its2, m2, dd2, sl2, r2, e2⟩ := lstObj I g1
  have l1 : its.toArray.size = ds1.length := by rw [List.size_toArray, ← r.length, h2.len]
  have l2 : its2.toArray.size = es1.length := by rw [List.size_toArray, ← r2.length, g2.len]
  by_cases hl : ds1.length = es1.length
  · refine GQ2.rc_listB ne (N := ds1.length) ar.room.units0 (fun i s' => Left Y pins σ γ F δ s' ∧ allB (ds1.take i) (es1.take i) f = true) (fun s' => Left Y pins σ γ F δ s' ∧ allB ds1 es1 f = false) ⟨fun i s' q => ?_, fun s' q => ?_⟩ (fun s' q => ⟨?_, q.1⟩) (fun s' q => ⟨?_, q.1⟩) ⟨⟨F, H, I, Same.refl _, A.s⟩, by simp [allB]⟩
    · obtain ⟨⟨F1, H1, I1, sm, S1⟩, al⟩ := q
      obtain ⟨a', xs', ea, h1', h2'⟩ := res_lst S1 (ra.mono pre_refl sm) hda
      obtain ⟨b', ys', eb, g1', g2'⟩ := res_lst S1 (rb.mono pre_refl sm) hdb
      cases ea
      cases eb
      obtain ⟨its', m', dd', sl', r', e'⟩ := lstObj I1 h1'
      obtain ⟨its2', m2', dd2', sl2', r2', e2'⟩ := lstObj I1 g1'
      exact ⟨its'.toArray, its2'.toArray, m', m2', dd', dd2', sl', sl2', e', e2', by rw [List.size_toArray, ← r'.length, h2'.len], by rw [List.size_toArray, ← r2'.length, g2'.len, hl], fun k1 k2 => turnB (h hl) ar A r' r2' k1 k2 ⟨F1, H1, I1, sm, S1, h2', g2', al⟩⟩
    · obtain ⟨⟨F1, H1, I1, sm, S1⟩, al⟩ := q
      obtain ⟨a', xs', ea, h1', h2'⟩ := res_lst S1 (ra.mono pre_refl sm) hda
      obtain ⟨b', ys', eb, g1', g2'⟩ := res_lst S1 (rb.mono pre_refl sm) hdb
      cases ea
      cases eb
      obtain ⟨its', m', dd', sl', r', e'⟩ := lstObj I1 h1'
      obtain ⟨its2', m2', dd2', sl2', r2', e2'⟩ := lstObj I1 g1'
      exact ⟨its'.toArray, its2'.toArray, m', m2', dd', dd2', sl', sl2', e', e2', by rw [List.size_toArray, ← r'.length, h2'.len], by rw [List.size_toArray, ← r2'.length, g2'.len, hl]⟩
    · have al := q.2
      rw [List.take_of_length_le (Nat.le_refl _), List.take_of_length_le (by omega)] at al
      rw [al, decide_eq_true hl]; cases ne <;> rfl
    · rw [q.2, decide_eq_true hl]; cases ne <;> rfl
  · refine GQ2.rc_listL ne ar.room.units0 e e2 (by rw [l1, l2]; exact hl) ⟨?_, F, H, I, Same.refl _, A.s⟩
    rw [decide_eq_false hl]; cases ne <;> rfl
theorem rcB_tup {ds1 es1 : List D} {f : D → D → Bool} (ne : Bool) (h : ∀ (i : Nat) d e, ds1[i]? = some d → es1[i]? = some e → EqB Y n ρ d e δ (f d e)) : RcB Y (n + 1) ρ ne (.tup ds1) (.tup es1) δ (decide (ds1.length = es1.length) && allB ds1 es1 f) := by
  refine ⟨fun A' pins s σ γ F H x y u v ar I A ra rb rx ry => ?_⟩
  obtain ⟨a, xs, rfl, h1, h2, _⟩ := res_tup A.s ra rfl
  obtain ⟨b, ys, rfl, g1, g2, _⟩ := res_tup A.s rb rfl
  cases rx
  cases ry
  obtain ⟨its, r, e, z⟩ := I.tuple h1
  obtain ⟨its2, r2, e2, z2⟩ := I.tuple g1
  have l1 : its.toArray.size = ds1.length := by rw [List.size_toArray, ← r.length, h2.len]
  have l2 : its2.toArray.size = es1.length := by rw [List.size_toArray, ← r2.length, g2.len]
  refine GQ2.rc_tupB ne ar.room.units0 (fun i s' => Left Y pins σ γ F δ s' ∧ allB (ds1.take i) (es1.take i) f = true) (fun s' => Left Y pins σ γ F δ s' ∧ allB ds1 es1 f = false) e e2 (fun i k1 k2 s' q => ?_) (fun s' q => ⟨?_, q.1⟩) (fun s' q => ⟨?_, q.1⟩) ⟨⟨F, H, I, Same.refl _, A.s⟩, by simp [allB]⟩
  · obtain ⟨⟨F1, H1, I1, sm, S1⟩, al⟩ := q
    exact turnB h ar A r r2 k1 k2 ⟨F1, H1, I1, sm, S1, h2.mono pre_refl sm, g2.mono pre_refl sm, al⟩
  · have al := q.2
    rw [l1, l2, allB_min] at al
    rw [al, l1, l2, Bool.and_true]
    cases ne <;> simp [Bool.beq_eq_decide_eq]
  · rw [q.2, Bool.and_false]; cases ne <;> rfl
end
end PV
namespace PV
open PySem PySem.Spec PyProof.Rows L2
/-- the type of the right side, for an own operator of the class C -/
inductive TyR (K : PySem.W.Frag) (δ : Sto) (C : Addr) : D → Value → Prop
  | same {d : D} {ns : List Str} {ds : List D} (h : res δ d = .ins C ns ds) : TyR K δ C d (.ref C)
  | ty {d : D} {t : Value} (h : TyD K δ d t) : TyR K δ C d t
theorem TyR.e {K : PySem.W.Frag} {δ : Sto} {C : Addr} {d : D} {t : Value} {N F H : Hp} {γ : List Addr} {v : V} (h : TyR K δ C d t) (S : RepS K N γ F H δ) (r : RT K γ F d v) : WW.TyE K C H v t := by
  cases h with
  | same h =>
    obtain ⟨a, dx, xs, rfl, h1, _⟩ := res_ins S r h
    exact .inl ⟨a, dx, _, rfl, h1, rfl⟩
  | ty h => exact .inr (h.tx S r)
/-- what the text says of C's own == -/
structure EqT (K : PySem.W.Frag) (C : Addr) : Prop where
  ne : PySem.W.findIn K (.ref C) "__ne__" = some (some (.builtin "object.__ne__"))
  ob : PySem.W.mroIn K C (.type "object") = some true
section
variable {Y : PX} {ρ : En} {δ : Sto} {σ : L2.St} {γ γ' : List Addr} {F F' H H' N : Hp} {Q : D → Sto → Prop} {k n : Nat} {f C : Addr} {fd : FuncData} {ps : List Str} {S : DSp} {dds : List D} {da db : D} {t : Value} {ns : List Str} {ds : List D}
theorem ins_at {pins : List (Addr × Obj)} {s : Shared} {x : V} (I : L2.Inv Y.X pins σ H s) (A : At Y γ F H δ σ ρ) (r : RT Y.X.K γ F da x) (hda : res δ da = .ins C ns ds) : ∃ a od ox, x = .ref a ∧ PySem.W.InstAt s.heap a ox C od := by
  obtain ⟨a, dx, xs, rfl, h1, _⟩ := res_ins A.s r hda
  obtain ⟨mA, J, _⟩ := ins_get I.hok h1
  obtain ⟨od, J, _⟩ := J.look
  exact ⟨a, _, _, rfl, J⟩
/-- the answer back from a comparison's call -/
theorem left_of {pins : List (Addr × Obj)} {u : Value} {s' : Shared} {R : D → Prop} (A : At Y γ F H δ σ ρ) (h : EP Y.X pins σ (Out Y.X.K Y.N γ F fun r δ' => R r ∧ δ' = δ) u s') : ∃ x H' F' d, L2.Inv Y.X pins σ H' s' ∧ L2.RelV x u ∧ Same F F' ∧ RepS Y.X.K Y.N γ F' H' δ ∧ RT Y.X.K γ F' d x ∧ R d := by
  obtain ⟨x, H', I', rx, γ', F', d, δ', p, sm, S', r, hR, e⟩ := h
  subst e
  have : γ' = γ := (p.eq_of_length (by rw [A.s.len, S'.len])).symm
  subst this
  exact ⟨x, H', F', d, I', rx, sm, S', r, hR⟩
theorem rcB_ins {b : Bool} (ne : Bool) (g : MtD Y.X.prog Y.X.w Y.X.K Y.X.mg Y.X.base k C "__eq__" ps [] S) (T : EqT Y.X.K C) (hda : res δ da = .ins C ns ds) (ty : TyR Y.X.K δ C db t) (hn : PySem.W.notFirst Y.X.K C t = true)
    (h : S [da, db] δ (fun r δ' => r = .bl b ∧ δ' = δ) fun _ _ _ => False) (hS : ∀ R T T', (∀ C g δ', T C g δ' → T' C g δ') → S [da, db] δ R T → S [da, db] δ R T') : RcB Y (k + 1) ρ ne da db δ b := by
  refine ⟨fun A' pins s σ γ F H x y u v ar I A ra rb rx ry => ?_⟩
  obtain ⟨f, fd, ds', dvs, hm, G, hb, hd, hR⟩ := g.ex
  obtain ⟨a, od, ox, rfl, J⟩ := ins_at I A ra hda
  cases rx
  have h' := hS _ _ (fun C g δ' => Y.T C g ρ δ') (fun _ _ _ z => z.elim) h
  have lk := WW.tyE_looks I ry (ty.e A.s rb) (model Y.X.prog Y.X.w)
  have cal : ∀ A'', Ar Y.X k A'' → wpAny (model Y.X.prog Y.X.w) A'' (call (.ref f) [.ref a, v]) (fun u s' => u = .bool b ∧ Left Y pins σ γ F δ s') Y.X.xe s := fun A'' ar' =>
    thn (call_at (as := [da, db]) G ar' hb hd hR I A (RTs.cons ra (RTs.cons rb RTs.nil)) (.cons rfl (.cons ry .nil)) (by simpa using h')) fun u s' z => by
      obtain ⟨x, H', F', d, I', rx, sm, S', r, hd'⟩ := left_of A z
      subst hd'
      cases r.bl
      cases rx
      exact ⟨rfl, F', H', I', sm, S'⟩
  cases ne with
  | false =>
    obtain ⟨m, hF⟩ := I.fr
    refine PySem.W.cmp_K (op := .Eq) (tb := t) ar.room.units0 hF I.ok.mod.kin J lk hn hm.at_ hm.fn (thn (cal A' (ar.mono (by omega))) fun u s' ⟨e, l⟩ => ?_)
    subst e
    exact ⟨by simp, l⟩
  | true =>
    refine WW.ne_own (hu_of ar.room) I.kIn J lk hn T.ob T.ne hm.at_ hm.fn (thn (cal A'.in1 ar.in1) fun u s' ⟨e, l⟩ => ?_)
    subst e
    exact ⟨b, rfl, by simp, l⟩
theorem eqB_ins {b : Bool} (g : MtD Y.X.prog Y.X.w Y.X.K Y.X.mg Y.X.base k C "__eq__" ps [] S) (T : EqT Y.X.K C) (hda : res δ da = .ins C ns ds) (ty : TyR Y.X.K δ C db t) (hn : PySem.W.notFirst Y.X.K C t = true)
    (h : S [da, db] δ (fun r δ' => r = .bl b ∧ δ' = δ) fun _ _ _ => False) (hS : ∀ R T T', (∀ C g δ', T C g δ' → T' C g δ') → S [da, db] δ R T → S [da, db] δ R T') (hs : ∀ γ F v, RT Y.X.K γ F da v → RT Y.X.K γ F db v → b = true)
    (hre : ∀ γ F H N v, RepS Y.X.K N γ F H δ → RT Y.X.K γ F db v → ∃ a, v = .ref a) : EqB Y (k + 1) ρ da db δ b :=
  eqB_ref (rcB_ins false g T hda ty hn h hS) (fun γ F H N v R r => by obtain ⟨a, dx, xs, e, _⟩ := res_ins R r hda; exact ⟨a, e⟩) hre hs
/-- an instance against a scalar -/
theorem eqB_insF {b : Bool} {w : V} (g : MtD Y.X.prog Y.X.w Y.X.K Y.X.mg Y.X.base k C "__eq__" ps [] S) (T : EqT Y.X.K C) (hda : res δ da = .ins C ns ds) (ty : TyR Y.X.K δ C db t) (hn : PySem.W.notFirst Y.X.K C t = true)
    (h : S [da, db] δ (fun r δ' => r = .bl b ∧ δ' = δ) fun _ _ _ => False) (hS : ∀ R T T', (∀ C g δ', T C g δ' → T' C g δ') → S [da, db] δ R T → S [da, db] δ R T') (hf : db.flat = some w) (hna : da.isAl = false) : EqB Y (k + 1) ρ da db δ b := by
  have rr := rcB_ins (ρ := ρ) false g T hda ty hn h hS
  refine ⟨fun A' pins s σ γ F H x y u v ar I A ra rb rx ry => ?_, fun γ F v ra rb => ?_⟩
  · have z := rr.run A' pins s σ γ F H x y u v ar I A ra rb rx ry
    obtain ⟨a, dx, xs, rfl, h1, _⟩ := res_ins A.s ra hda
    obtain ⟨rfl, fy⟩ := rb.flat hf
    obtain rfl : u = Value.ref a := rx
    have hne : (Value.ref a == v) = false := by
      cases y with
      | non => cases ry; rfl
      | bl b => cases ry; rfl
      | int i => obtain ⟨t, rfl⟩ := ry; rfl
      | str x => obtain ⟨t, rfl⟩ := ry; rfl
      | _ => cases fy
    unfold eqBool
    refine wpAny_holding ?_
    refine wpAny_ite_split (fun hab => ?_) (fun _ => ?_)
    · exact absurd (hab.symm.trans hne) (by decide)
    · refine wpAny_bind (wpAny_mono z (fun r s' hv => ?_) fun _ _ x => x)
      obtain ⟨e, l⟩ := hv
      subst e
      exact wpAny_truthy_bool ⟨by simp, l⟩
  · cases da with
    | al j => cases hna
    | ins C' ns' ds' =>
      have ra' : Rep _ _ _ _ := ra
      rw [Rep] at ra'
      obtain ⟨a, dx, xs, rfl, _⟩ := ra'
      obtain ⟨e, fy⟩ := rb.flat hf
      subst e
      cases fy
    | _ => cases hda
end
end PV
namespace WW
open PySem PySem.Spec PyProof.Rows L2
section
open PySem.W
variable {prog : Program} {w : World} {A : Around} {E : Value → Shared → Prop} {s : Shared} {K : Frag} {x C L f : Addr} {h₀ : Heap} {m : Str → Option Value} {ox : Obj} {od : Option Obj} {b tb : Value}
/-- a op b, both of the class C, by C's own method -/
theorem bin_same {op : Operator} {Q : Value → Shared → Prop} (X : K.In s.heap) (I : InstAt s.heap x ox C od) (hb : Looks (model prog w) s.heap (typeOf b) (.ref C)) (hc : selfFirst K C = true)
    (hs : findIn K (.ref C) (PySem.dunder op.info.2) = some (some (.ref f))) (hf : isFn K (.ref f) = true)
    (h : wpAny (model prog w) A (call (.ref f) [.ref x, b]) (PySem.W.CmpBack Q) E s) : wpAny (model prog w) A (binaryOp op (.ref x) b) Q E s := by
  obtain ⟨cd, rest, hcd, hm⟩ := ksp_first hc
  rcases hi : op.info with ⟨sym, nm'⟩
  rw [hi] at hs
  dsimp only at hs
  have one := ksp_try X I hs hf h
  obtain ⟨hh, g, d, tt, os⟩ := s
  have L1 : Looks (model prog w) hh (typeOf (.ref x)) (.ref C) := I.type
  have L3 : Looks (model prog w) hh (fillsNumberSlot (.ref C) nm') true := fills_K X hcd hm hs
  have hne : (Value.ref C == Value.ref C) = true := by simp
  simp only [binaryOp, hi]
  refine wpAny_holding (wpAny_bind ?_)
  unfold binaryOp1
  refine wpAny_bind (L1.at (wpAny_bind (hb.at (wpAny_bind (L3.at ?_)))))
  simp only [hne, if_true]
  ksp_lk
  refine wpAny_mono one (fun r s' hr' => ?_) fun _ _ e => e
  obtain ⟨v, rfl, hq⟩ := hr'
  ksp_lk
  exact hq
end
end WW
namespace PV
open PySem PySem.Spec PyProof.Rows L2
theorem relV_back {v : V} {u : Value} {P : Value → Shared → Prop} {s : Shared} (r : L2.RelV v u) (h : P u s) : PySem.W.CmpBack P u s := by
  cases u with
  | notImplemented =>
    exfalso
    cases v with
    | non => cases r
    | bl _ => cases r
    | int _ => obtain ⟨_, z⟩ := r; cases z
    | str _ => obtain ⟨_, z⟩ := r; cases z
    | byt _ => obtain ⟨_, z⟩ := r; cases z
    | flt _ => obtain ⟨_, z⟩ := r; cases z
    | ref _ => cases r
    | ty _ => cases r
  | _ => exact h
/-- the class C has own operators (it stands first in its order) -/
structure OpT (K : PySem.W.Frag) (C : Addr) : Prop where
  first : PySem.W.selfFirst K C = true
  int : PySem.W.notFirst K C (.type "int") = true
section
variable {Y : PX} {ρ : En} {δ : Sto} {σ : L2.St} {γ γ' : List Addr} {F F' H H' N : Hp} {Q : D → Sto → Prop} {k n : Nat} {f C : Addr} {fd : FuncData} {ps : List Str} {S : DSp} {dds : List D} {da db : D} {t : Value} {ns ns' : List Str} {ds ds' : List D}
/-- a op b, both of one class -/
theorem bin_own {op : Operator} {m : Str} (g : MtD Y.X.prog Y.X.w Y.X.K Y.X.mg Y.X.base k C m ps [] S) (hc : PySem.W.selfFirst Y.X.K C = true) (hr : Room k Y.X.A) (hda : res δ da = .ins C ns ds) (hdb : res δ db = .ins C ns' ds')
    (h : S [da, db] δ Q fun C g δ' => Y.T C g ρ δ') (hm' : m = PySem.dunder op.info.2 := by rfl) : BinD Y ρ op da db δ Q := .mk fun pins s σ γ F H x y v u I A ra rb rx ry => by
  subst hm'
  obtain ⟨f, fd, ds2, dvs, hm, G, hb, hd, hR⟩ := g.ex
  obtain ⟨a, od, ox, rfl, J⟩ := ins_at I A ra hda
  cases rx
  have lk := WW.tyE_looks (C := C) I ry ((TyR.same hdb).e A.s rb) (model Y.X.prog Y.X.w)
  exact WW.bin_same I.kIn J lk hc hm.at_ hm.fn (thn (call_at (as := [da, db]) G ⟨hr, I.ok.frames⟩ hb hd hR I A (RTs.cons ra (RTs.cons rb RTs.nil)) (.cons rfl (.cons ry .nil)) (by simpa using h)) fun u s' z => by obtain ⟨v, H', I', r, q⟩ := z; exact relV_back r ⟨v, H', I', r, q⟩)
/-- a < b and the like -/
theorem cmp_own {op : CmpOp} {m : Str} (g : MtD Y.X.prog Y.X.w Y.X.K Y.X.mg Y.X.base k C m ps [] S) (hr : Room k Y.X.A) (hda : res δ da = .ins C ns ds) (ty : TyR Y.X.K δ C db t) (hn : PySem.W.notFirst Y.X.K C t = true)
    (h : S [da, db] δ Q fun C g δ' => Y.T C g ρ δ') (ho : ∀ v u, compareOp op v u = richCompare op v u := by intros; rfl) (hm' : m = (cmpInfo op).2.1 := by rfl) : CmpD Y ρ op da db δ Q := .mk fun pins s σ γ F H x y v u I A ra rb rx ry => by
  subst hm'
  obtain ⟨f, fd, ds2, dvs, hm, G, hb, hd, hR⟩ := g.ex
  obtain ⟨a, od, ox, rfl, J⟩ := ins_at I A ra hda
  cases rx
  have lk := WW.tyE_looks I ry (ty.e A.s rb) (model Y.X.prog Y.X.w)
  obtain ⟨m, hF⟩ := I.fr
  rw [ho]
  exact PySem.W.cmp_K (tb := t) hr.units0 hF I.ok.mod.kin J lk hn hm.at_ hm.fn (thn (call_at (as := [da, db]) G ⟨hr, I.ok.frames⟩ hb hd hR I A (RTs.cons ra (RTs.cons rb RTs.nil)) (.cons rfl (.cons ry .nil)) (by simpa using h)) fun u s' z => by obtain ⟨v, H', I', r, q⟩ := z; exact relV_back r ⟨v, H', I', r, q⟩)
/-! ### subscripts -/
structure IxD (Y : PX) (ρ : En) (da db : D) (δ : Sto) (Q : D → Sto → Prop) : Prop where
  run : ∀ (value slice : Expr) pins s σ γ F H x y v u, L2.Inv Y.X pins σ H s → At Y γ F H δ σ ρ → RT Y.X.K γ F da x → RT Y.X.K γ F db y → L2.RelV x v → L2.RelV y u → subscripted slice false v u = operate [v, u] (getItem v u) →
    wpAny (model Y.X.prog Y.X.w) Y.X.A (subscriptTail value slice v u) (EP Y.X pins σ (Out Y.X.K Y.N γ F Q)) Y.X.xe s
variable {e a b o i value : Expr} {es : List Expr} {pos p p2 : Pos} {x : Str}
theorem we_ix (h : WE Y a ρ δ fun da δ1 => WE Y b ρ δ1 fun db δ2 => IxD Y ρ da db δ2 Q) (hs : PlainIx b := by intro _ _; rfl) : WE Y (.Subscript a b pos) ρ δ Q := .mk fun σ γ F H A pins s I => by
  refine Subscript_ (thn (h.run σ γ F H A pins s I) fun v s1 ⟨x, H1, I1, rx, γ1, F1, d1, δ1, p1, q1, S1, R1, k1⟩ => thn (k1.run σ γ1 F1 H1 (A.next p1 q1 S1) pins s1 I1) fun u s2 ⟨y, H2, I2, ry, γ2, F2, d2, δ2, p2, q2, S2, R2, k2⟩ => ?_)
  exact thn (k2.run a b pins s2 σ γ2 F2 H2 x y v u I2 ((A.next p1 q1 S1).next p2 q2 S2) (R1.mono p2 q2) R2 rx ry (hs _ _)) fun _ _ z => EP.le (p1.trans p2) (q1.trans q2) z
theorem atI_rep {K : PySem.W.Frag} {ds : List D} {xs : List V} {i : Int} {d : D} (r : RTs K γ F ds xs) (h : atI ds i = some d) : ∃ x, atI xs i = some x ∧ RT K γ F d x := by
  unfold atI at h ⊢
  rw [r.len]
  cases e : ixN ds.length i with
  | none => rw [e] at h; cases h
  | some j =>
    rw [e] at h
    exact r.get h
theorem ix_lst {i : Int} {d : D} (hd : res δ da = .lst ds) (hi : atI ds i = some d) (q : Q d δ) : IxD Y ρ da (.int i) δ Q := ⟨fun value slice pins s σ γ F H x y v u I A ra rb rx ry hs => by
  obtain ⟨a, xs, rfl, h1, h2⟩ := res_lst A.s ra hd
  cases rb.int
  obtain ⟨z, hz, rz⟩ := atI_rep h2 hi
  exact ix_list value slice pins s σ H _ _ v u _ I rx ry ⟨a, xs, i, z, rfl, rfl, h1, hz, Out.here A.s rz q⟩ hs⟩
theorem ix_tupD {i : Int} {d : D} (hi : atI ds i = some d) (q : Q d δ) : IxD Y ρ (.tup ds) (.int i) δ Q := ⟨fun value slice pins s σ γ F H x y v u I A ra rb rx ry hs => by
  obtain ⟨a, xs, rfl, h1, h2, _⟩ := res_tup A.s ra rfl
  cases rb.int
  obtain ⟨z, hz, rz⟩ := atI_rep h2 hi
  exact ix_tup value slice pins s σ H _ _ v u _ I rx ry ⟨a, xs, i, z, rfl, rfl, h1, hz, Out.here A.s rz q⟩ hs⟩
/-- keys -/
def keyD : D → Option Key
  | .int i => some (.inl i)
  | .str x => some (.inr x)
  | _ => none
theorem keyD_v {K : PySem.W.Frag} {d : D} {v : V} {k : Key} (r : RT K γ F d v) (h : keyD d = some k) : v = kV k := by
  cases d with
  | int i => cases r.int; cases h; rfl
  | str x => cases r.str; cases h; rfl
  | _ => cases h
def lookK (k : Key) : List Key → List D → Option D
  | n :: ns, d :: ds => if n = k then some d else lookK k ns ds
  | _, _ => none
theorem valV_zip {K : PySem.W.Frag} {k : Key} : ∀ {ks : List Key} {ds : List D} {xs : List V}, ks.length = ds.length → RTs K γ F ds xs → (lookK k ks ds = none ∧ valV (ks.zip xs) k = none) ∨ ∃ d x, lookK k ks ds = some d ∧ valV (ks.zip xs) k = some x ∧ RT K γ F d x
  | [], ds, xs, hl, r => .inl ⟨by cases ds <;> rfl, by simp [valV]⟩
  | n :: ks, [], xs, hl, r => by simp at hl
  | n :: ks, d :: ds, xs, hl, ⟨x, t, e, r1, r2⟩ => by
    subst e
    by_cases h : n = k
    · subst h
      exact .inr ⟨d, x, by simp [lookK], by simp [valV, List.lookup], r1⟩
    · have q := valV_zip (k := k) (ks := ks) (by simpa using hl) r2
      have e1 : lookK k (n :: ks) (d :: ds) = lookK k ks ds := by simp [lookK, h]
      have e2 : valV ((n :: ks).zip (x :: t)) k = valV (ks.zip t) k := valV_neg h
      rw [e1, e2]
      exact q
theorem dget_rep {K : PySem.W.Frag} {N : Hp} {da db : D} {v y : V} {ks : List Key} {ds : List D} {k : Key} (S : RepS K N γ F H δ) (ra : RT K γ F da v) (rb : RT K γ F db y) (hd : res δ da = .dct ks ds) (hk : keyD db = some k) :
    ∃ a, v = .ref a ∧ ((lookK k ks ds = none ∧ DGet H a y none) ∨ ∃ d x, lookK k ks ds = some d ∧ DGet H a y (some x) ∧ RT K γ F d x) := by
  obtain ⟨a, xs, rfl, h1, h2, h3⟩ := res_dct S ra hd
  have ey := keyD_v rb hk
  refine ⟨a, rfl, ?_⟩
  rcases valV_zip (k := k) h2 h3 with ⟨q1, q2⟩ | ⟨d, x, q1, q2, q3⟩
  · exact .inl ⟨q1, .inl ⟨_, k, h1, ey, q2.symm⟩⟩
  · exact .inr ⟨d, x, q1, .inl ⟨_, k, h1, ey, q2.symm⟩, q3⟩
/-- d[k] -/
theorem ix_dct {ks : List Key} {ds : List D} {k : Key} {d : D} (hu : Y.X.A.units + 1 < cLine) (hd : res δ da = .dct ks ds) (hk : keyD db = some k) (hl : lookK k ks ds = some d) (q : Q d δ) : IxD Y ρ da db δ Q := ⟨fun value slice pins s σ γ F H x y v u I A ra rb rx ry hs => by
  obtain ⟨a, rfl, w⟩ := dget_rep A.s ra rb hd hk
  rcases w with ⟨q1, _⟩ | ⟨d', x', q1, g, r'⟩
  · rw [hl] at q1; cases q1
  rw [hl] at q1; cases q1
  obtain rfl : v = Value.ref a := rx
  have hT := dict_typeIs I g
  unfold subscriptTail
  refine wpAny_bind ?_
  rw [getitemInPython_of_ne hT.not_modules]
  refine wpAny_bind (wpAny_specialOf hT PySem.F.slot_dict_getitem.lookup ?_)
  have fin : wpAny (model Y.X.prog Y.X.w) Y.X.A (subscripted slice false (.ref a) u) (fun r s₃ => wpAny (model Y.X.prog Y.X.w) Y.X.A (letTemporaryGo value (.ref a) r >>= fun _ => pure r) (EP Y.X pins σ (Out Y.X.K Y.N γ F Q)) Y.X.xe s₃) Y.X.xe s := by
    rw [hs]
    refine wpAny_operating (d_getItem hu I g ry fun w' s3 I3 rw' => wpAny_bind (wpAny_letTemporaryGo (wpAny_pure ⟨x', H, I3, rw', Out.here A.s r' q⟩)))
  first
    | exact wpAny_pure (wpAny_bind fin)
    | exact wpAny_bind (wpAny_pure (wpAny_bind fin))
    | exact wpAny_bind fin⟩
/-- k in d, k not in d -/
theorem cmp_inD {ks : List Key} {ds : List D} {k : Key} (hu : Y.X.A.units + 1 < cLine) (hd : res δ db = .dct ks ds) (hk : keyD da = some k) (q : Q (.bl (lookK k ks ds).isSome) δ) : CmpD Y ρ .In da db δ Q := .mk fun pins s σ γ F H x y v u I A ra rb rx ry => by
  obtain ⟨a, rfl, w⟩ := dget_rep A.s rb ra hd hk
  obtain rfl : u = Value.ref a := ry
  rcases w with ⟨q1, g⟩ | ⟨d', x', q1, g, r'⟩
  · rw [q1] at q; exact d_in hu I g rx fun s3 I3 => ⟨.bl false, H, I3, rfl, Out.here A.s rt_bl q⟩
  · rw [q1] at q; exact d_in hu I g rx fun s3 I3 => ⟨.bl true, H, I3, rfl, Out.here A.s rt_bl q⟩
theorem cmp_notinD {ks : List Key} {ds : List D} {k : Key} (hu : Y.X.A.units + 1 < cLine) (hd : res δ db = .dct ks ds) (hk : keyD da = some k) (q : Q (.bl (!(lookK k ks ds).isSome)) δ) : CmpD Y ρ .NotIn da db δ Q := .mk fun pins s σ γ F H x y v u I A ra rb rx ry => by
  obtain ⟨a, rfl, w⟩ := dget_rep A.s rb ra hd hk
  obtain rfl : u = Value.ref a := ry
  rcases w with ⟨q1, g⟩ | ⟨d', x', q1, g, r'⟩
  · rw [q1] at q; exact d_notIn hu I g rx fun s3 I3 => ⟨.bl true, H, I3, rfl, Out.here A.s rt_bl q⟩
  · rw [q1] at q; exact d_notIn hu I g rx fun s3 I3 => ⟨.bl false, H, I3, rfl, Out.here A.s rt_bl q⟩
/-- the keys and the values behind d[k] = e -/
def hasK (k : Key) (ks : List Key) : Bool := ks.any fun n => decide (n = k)
def putKs (k : Key) (ks : List Key) : List Key := if hasK k ks then ks else ks ++ [k]
def putKd (k : Key) (d : D) (ks : List Key) (ds : List D) : List D := if hasK k ks then (ks.zip ds).map (fun p => if p.1 = k then d else p.2) else ds ++ [d]
theorem putK_zip {K : PySem.W.Frag} {k : Key} {d : D} {v : V} {ks : List Key} {ds : List D} {xs : List V} (hl : ks.length = ds.length) (r : RTs K γ F ds xs) (rv : RT K γ F d v) : ∃ ys, putK (ks.zip xs) k v = (putKs k ks).zip ys ∧ (putKs k ks).length = (putKd k d ks ds).length ∧ RTs K γ F (putKd k d ks ds) ys := by
  have hx := r.len
  have ha : ∀ (ks : List Key) (xs : List V), ks.length = xs.length → ((ks.zip xs).any fun kv => decide (kv.1 = k)) = hasK k ks := fun ks => by
    induction ks with
    | nil => intro xs h; simp [hasK]
    | cons n ks ih =>
      intro xs h
      cases xs with
      | nil => simp at h
      | cons x xs =>
        rw [List.zip_cons_cons, List.any_cons, ih xs (by simpa using h)]
        rfl
  unfold putK putKs putKd
  rw [ha ks xs (by omega)]
  by_cases hc : hasK k ks = true
  · rw [if_pos hc, if_pos hc, if_pos hc]
    refine ⟨(ks.zip xs).map (fun p => if p.1 = k then v else p.2), ?_, by simp [hl], ?_⟩
    · clear hc ha
      induction ks generalizing xs ds with
      | nil => simp
      | cons n ks ih =>
        cases ds with
        | nil => simp at hl
        | cons d0 ds =>
          obtain ⟨x, t, rfl, r1, r2⟩ := r
          simp only [List.zip_cons_cons, List.map_cons]
          rw [ih (by simpa using hl) r2 r2.len]
          by_cases e : n = k
          · simp [e]
          · simp [e]
    · clear hc ha
      induction ks generalizing xs ds with
      | nil => cases ds with
        | nil => cases r; rfl
        | cons d0 ds => simp at hl
      | cons n ks ih =>
        cases ds with
        | nil => simp at hl
        | cons d0 ds =>
          obtain ⟨x, t, rfl, r1, r2⟩ := r
          simp only [List.zip_cons_cons, List.map_cons]
          refine RTs.cons ?_ (ih (by simpa using hl) r2 r2.len)
          by_cases e : n = k
          · simp [e]; exact rv
          · simp [e]; exact r1
  · rw [if_neg hc, if_neg hc, if_neg hc]
    refine ⟨xs ++ [v], ?_, by simp [hl], r.append (RTs.cons rv RTs.nil)⟩
    rw [List.zip_append (by omega)]; rfl
/-- o[k] = e : a dict, a list of the store -/
structure SetD (Y : PX) (ρ : En) (da db dv : D) (δ : Sto) (Q : Sto → Prop) : Prop where
  run : ∀ pins s σ γ F H o i v ov iv u, L2.Inv Y.X pins σ H s → At Y γ F H δ σ ρ → RT Y.X.K γ F da o → RT Y.X.K γ F db i → RT Y.X.K γ F dv v → L2.RelV o ov → L2.RelV i iv → L2.RelV v u →
    wpAny (model Y.X.prog Y.X.w) Y.X.A (setItem ov iv u) (fun _ s' => ∃ H' γ' F' δ', L2.Inv Y.X pins σ H' s' ∧ γ <+: γ' ∧ Same F F' ∧ RepS Y.X.K Y.N γ' F' H' δ' ∧ Q δ') Y.X.xe s
theorem ws_sub {T : DE} (h : WE Y value ρ δ fun dv δ1 => WE Y o ρ δ1 fun da δ2 => WE Y i ρ δ2 fun db δ3 => SetD Y ρ da db dv δ3 fun δ4 => T.nx ρ δ4) (hs : swapsWith value (some (.Subscript o i p)) pos.line Y.X.env = pure false := by rfl) : WS Y (.Assign [.Subscript o i p] value pos) ρ δ T := .mk fun σ γ F H A pins s I => by
  refine wpAny_Assign_Subscript (thn (h.run σ γ F H A pins s I) fun r s1 ⟨x, H1, I1, rx, γ1, F1, d1, δ1, p1, q1, S1, R1, k1⟩ => thn (k1.run σ γ1 F1 H1 (A.next p1 q1 S1) pins s1 I1) fun u s2 ⟨y, H2, I2, ry, γ2, F2, d2, δ2, p2, q2, S2, R2, k2⟩ => thn (k2.run σ γ2 F2 H2 ((A.next p1 q1 S1).next p2 q2 S2) pins s2 I2) fun iv s3 ⟨z, H3, I3, rz, γ3, F3, d3, δ3, p3, q3, S3, R3, k3⟩ => ?_) hs
  have A3 := ((A.next p1 q1 S1).next p2 q2 S2).next p3 q3 S3
  refine thn (k3.run pins s3 σ γ3 F3 H3 y z x u iv r I3 A3 (R2.mono p3 q3) R3 (R1.mono (p2.trans p3) (q2.trans q3)) ry rz rx) fun _ s4 ⟨H4, γ4, F4, δ4, I4, p4, q4, S4, k4⟩ => ?_
  exact ⟨σ, H4, I4, γ4, F4, ρ, δ4, p1.trans (p2.trans (p3.trans p4)), q1.trans (q2.trans (q3.trans q4)), S4, A3.e.mono p4 q4, k4⟩
theorem set_dct {j : Nat} {ks : List Key} {ds : List D} {k : Key} {dv : D} {Q : Sto → Prop} (hu : Y.X.A.units + 1 < cLine) (hd : δ[j]? = some (some (.dct ks ds))) (hk : keyD db = some k) (hl : ks.length < sizeLine) (q : Q (δ.set j (some (.dct (putKs k ks) (putKd k dv ks ds))))) : SetD Y ρ (.al j) db dv δ Q := ⟨fun pins s σ γ F H o i v ov iv u I A ra rb rv ro ri ru => by
  obtain ⟨a, ha, ⟨xs, h1, h2, h3⟩, _⟩ := A.s.at hd
  obtain ⟨a', ha', rfl⟩ := ra
  rw [ha] at ha'; cases ha'
  obtain rfl : ov = Value.ref a := ro
  obtain ⟨ys, g1, g2, g3⟩ := putK_zip (k := k) h2 h3 rv
  have ey := keyD_v rb hk
  have S := A.s.put (o := .dK ((putKs k ks).zip ys)) (d := .dct (putKs k ks) (putKd k dv ks ds)) ha hd ⟨ys, upd_same, g2, g3⟩
  rw [← g1] at S
  refine d_setItem hu I (.inl ⟨_, k, h1, ey, ?_, rfl⟩) ri ru fun s4 I4 => ⟨_, γ, F, _, I4, pre_refl, Same.refl _, S, q⟩
  rw [List.length_zip, h3.len]; omega⟩
theorem set_lst {j n : Nat} {ds : List D} {i : Int} {dv : D} {Q : Sto → Prop} (hd : δ[j]? = some (some (.lst ds))) (hi : ixN ds.length i = some n) (q : Q (δ.set j (some (.lst (ds.set n dv))))) : SetD Y ρ (.al j) (.int i) dv δ Q := ⟨fun pins s σ γ F H o i' v ov iv u I A ra rb rv ro ri ru => by
  obtain ⟨a, ha, ⟨xs, h1, h2⟩, _⟩ := A.s.at hd
  obtain ⟨a', ha', rfl⟩ := ra
  rw [ha] at ha'; cases ha'
  cases rb.int
  have S := A.s.put (o := .lst (xs.set n v)) (d := .lst (ds.set n dv)) ha hd ⟨_, upd_same, h2.set n rv⟩
  exact thn (set_list pins s σ H _ _ v ov iv u _ I ro ri ru ⟨a, xs, i, n, rfl, rfl, h1, by rw [h2.len]; exact hi, S⟩) fun _ s' ⟨H', I', S'⟩ => ⟨H', γ, F, _, I', pre_refl, Same.refl _, S', q⟩⟩
end
end PV
namespace PV
open PySem PySem.Spec PyProof.Rows L2
/-- a property of the class -/
structure PrD (P : Program) (w : World) (K : PySem.W.Frag) (mg : Str → Option Value) (base : Heap) (k : Nat) (C : Addr) (m : Str) (S : DSp) : Prop where
  cl : Cls K C
  ex : ∃ p g fd, PropOf K C m p g ∧ FnOk P w K mg base (L2.CX P w) k g fd ["self"] (spOf K S) ∧ L2.Binds K fd ["self"] []
/-- C(k = v, ..), the names ks; gD: the parameters in their order -/
structure MkK (P : Program) (w : World) (K : PySem.W.Frag) (mg : Str → Option Value) (base : Heap) (k : Nat) (C : Addr) (x : Str) (ks : List Str) (gD : D → List D → List D) (ps : List Str) (S : DSp) : Prop where
  mgC : mg x = some (.ref C)
  ex : ∃ f fd g gV, Mk K C f ∧ FnOk P w K mg base (L2.CX P w) k f fd ps (spOf K S) ∧ KBn K fd ps 1 ks g gV ∧ ∀ γ F d ds v vs, RT K γ F d v → RTs K γ F ds vs → ds.length = ks.length → RTs K γ F (gD d ds) (gV [v] vs)
def kSem (X : Cx) (kws : List Keyword) : TA := fun σ H Q => ∀ pos pins s, L2.Inv X pins σ H s → wpAny (model X.prog X.w) X.A (evalAll ((backToKw pos (keywordEach kws X.env)).map (·.2))) (AP X pins σ Q) X.xe s
theorem pk_sem {X : Cx} {kws : List Keyword} : PK X kws (kSem X kws) := ⟨fun pos pins s σ H Q I h => h pos pins s I⟩
structure WK (Y : PX) (kws : List Keyword) (ρ : En) (δ : Sto) (Q : List D → Sto → Prop) : Prop where
  run : ∀ σ γ F H, At Y γ F H δ σ ρ → kSem Y.X kws σ H (OutA Y.X.K Y.N γ F Q)
section
variable {Y : PX} {ρ : En} {δ : Sto} {σ : L2.St} {γ γ' : List Addr} {F F' H H' N : Hp} {Q : D → Sto → Prop} {k n : Nat} {f C : Addr} {fd : FuncData} {ps ks : List Str} {S : DSp} {dds : List D} {da db : D} {t : Value} {ns ns' : List Str} {ds ds' : List D}
variable {e a b o i value : Expr} {es : List Expr} {kws : List Keyword} {pos p p2 kpos : Pos} {x m : Str} {nm : Option Str}
theorem wk_nil {Q : List D → Sto → Prop} (q : Q [] δ) : WK Y [] ρ δ Q := .mk fun σ γ F H A pos pins s I => pk_nil.run pos pins s σ H _ I ⟨γ, F, [], δ, pre_refl, Same.refl _, A.s, RTs.nil, q⟩
theorem wk_cons {Q : List D → Sto → Prop} (h : WE Y e ρ δ fun d δ1 => WK Y kws ρ δ1 fun ds δ2 => Q (d :: ds) δ2) : WK Y (⟨nm, e, kpos⟩ :: kws) ρ δ Q := .mk fun σ γ F H A pos pins s I =>
  (pk_cons pe_sem pk_sem).run pos pins s σ H _ I (h.bind A fun v H1 γ1 F1 d δ1 p1 q1 A1 r1 k1 => fun pos' pins' s' I' => thn (k1.run σ γ1 F1 H1 A1 pos' pins' s' I') fun us s2 ⟨vs, H2, I2, rv, γ2, F2, ds, δ2, p2, q2, S2, R2, k2⟩ =>
    ⟨vs, H2, I2, rv, γ2, F2, d :: ds, δ2, p1.trans p2, q1.trans q2, S2, RTs.cons (r1.mono p2 q2) R2, k2⟩)
theorem we_prop (g : PrD Y.X.prog Y.X.w Y.X.K Y.X.mg Y.X.base k C m S) (hr : Room (k + 1) Y.X.A) (h : WE Y o ρ δ fun d δ1 => ∃ ns ds, res δ1 d = .ins C ns ds ∧ S [d] δ1 Q fun _ _ _ => False) (hb : attributeBase o m Y.X.env (eval o Y.X.env) = eval o Y.X.env := by rfl) : WE Y (.Attribute o m pos) ρ δ Q := .mk fun σ γ F H A => by
  obtain ⟨p, g', fd, hp, G, hbd⟩ := g.ex
  refine t_of (pe_prop pe_sem g.cl hp G hr hbd .nil (E := fun _ _ _ => False) (fun _ _ _ _ _ _ _ h => by obtain ⟨_, _, _, _, _, _, _, _, _, _, _, _, z⟩ := h; exact z) hb) (h.bind A fun v H1 γ1 F1 d δ1 p1 q1 A1 r1 k1 => ?_)
  obtain ⟨ns, ds, e1, k1⟩ := k1
  obtain ⟨a, dx, xs, rfl, h1, h2, h3⟩ := res_ins A1.s r1 e1
  exact ⟨a, dx, _, rfl, h1, Y.N, γ1, F1, δ1, [d], Q, _, A1.s, RTs.cons r1 RTs.nil, k1, fun v H' z => z.le p1 q1, fun cls d H' ⟨_, _, _, _, _, _, _, _, _, _, _, _, _, _, z⟩ => z⟩
theorem run_mkK {CX : CXT} {fI : Addr} {sp : Sp} {E : XK} {pins : List (Addr × Obj)} {s : Shared} {R : VK} {ws : List Value} {zs : List V} {g : List Value → List Value → List Value} {gV : List V → List V → List V} (M : Mk Y.X.K C fI) (G : FnOk Y.X.prog Y.X.w Y.X.K Y.X.mg Y.X.base CX k fI fd ps sp) (hr : Room (k + 1) Y.X.A) (hb : KBn Y.X.K fd ps 1 ks g gV)
    (hx : PassesAt CX Y.X σ E) (I : L2.Inv Y.X pins σ H s) (rz : Vals zs ws) (l2 : zs.length = ks.length)
    (h : ∀ x dx, H x = none → H dx = none → dx ≠ x → sp (gV [.ref x] zs) (upd (upd H dx (.own x)) x (.ins C dx [])) (fun v H2 => v = .non ∧ R (.ref x) H2) E) :
    wpAny (model Y.X.prog Y.X.w) Y.X.A (call (.ref C) [] (ks.zip ws)) (EP Y.X pins σ R) Y.X.xe s := by
  have hq := h (s.heap.objs.size + 1) s.heap.objs.size (I.hok.fresh (Nat.le_succ _)) (I.hok.fresh (Nat.le_refl _)) (Nat.ne_of_lt (Nat.lt_succ_self _))
  have I2 := L2.Inv.made (C := C) I
  have r1 : Vals [V.ref (s.heap.objs.size + 1)] [Value.ref (s.heap.objs.size + 1)] := .cons rfl .nil
  have r2 := hb.rel r1 rz
  refine wpAny_call (make_map (f := fI) I.kIn M.makes M.init (beq_iff_eq.mp M.fn) (codeAny_mono (G.run _ Y.X.stack _ _ ⟨[Value.ref (s.heap.objs.size + 1)], ks.zip ws⟩ (g [Value.ref (s.heap.objs.size + 1)] ws) _ _ E (hr.make C [] (ks.zip ws))
    (I2.env0.make C [] (ks.zip ws)) (hb.to _ [Value.ref (s.heap.objs.size + 1)] ws I2.kIn rfl (rz.length.symm.trans l2)) r2 hq) fun r s' hq' => ?_))
  cases r with
  | error e => exact hx pins _ _ e s' I2 hq'
  | ok fl =>
    cases fl with
    | ret u =>
      obtain ⟨v, H', I3, rv, ev, q3⟩ := I2.after hq'
      subst ev
      exact ⟨rv, ⟨V.ref (s.heap.objs.size + 1), H', I3, rfl, q3⟩⟩
    | next => exact False.elim hq'
    | brk => exact False.elim hq'
    | cont => exact False.elim hq'
theorem we_newK {gD : D → List D → List D} (g : MkK Y.X.prog Y.X.w Y.X.K Y.X.mg Y.X.base k C x ks gD ps S) (hr : Room (k + 1) Y.X.A) (h : WK Y kws ρ δ fun as δ1 => as.length = ks.length ∧ S (gD (.al δ1.length) as) (δ1 ++ [some (.ins C [] [])]) (fun r δ2 => r = .non ∧ Q (.al δ1.length) δ2) fun C g δ' => Y.T C g ρ δ')
    (hks : (backToKw pos (keywordEach kws Y.X.env)).filterMap (·.1) = ks := by rfl) (hall : (backToKw pos (keywordEach kws Y.X.env)).all (·.1.isSome) = true := by rfl) (hg : Gl Y.X x := by rfl) (hdb : (x == ("__debug__" : Str)) = false := by decide)
    (hpl : ((backTo pos (starEach [] Y.X.env)).any (·.1) || (backToKw pos (keywordEach kws Y.X.env)).any (·.1.isNone)) = false := by rfl) : WE Y (.Call (.Name x p) [] kws pos) ρ δ Q := .mk fun σ γ F H A pins s I => by
  obtain ⟨f, fd, g', gV, M, G, hb, hR⟩ := g.ex
  refine wpAny_Call_Name_kw (ld_glob I hg g.mgC ?_ hdb)
  refine PySem.W.callWith_KW0 (h₀ := Y.X.base) I.ok.mod.kin M.kp hall ?_ hpl
  refine thn (h.run σ γ F H A pos pins s I) fun us s1 ⟨vs, H1, I1, rv, γ1, F1, as, δ1, p1, q1, S1, R1, l1, k1⟩ => ⟨I1.kIn, ?_⟩
  rw [hks]
  have A1 := A.next p1 q1 S1
  refine run_mkK M G hr hb (passAt Y.tk σ) I1 rv (by rw [R1.len, l1]) fun x dx hx hdx ne => ?_
  obtain ⟨S2, sm⟩ := S1.frozen (o := .own x) hdx
  have px : γ1 <+: γ1 ++ [x] := ⟨[x], rfl⟩
  have S3 := S2.made (p := x) (o := .ins C dx []) (d := .ins C [] []) (by rw [upd_ne (Ne.symm ne)]; exact hx) ⟨dx, [], upd_same, rfl, RTs.nil⟩
  have A2 : At Y (γ1 ++ [x]) (upd F1 dx (.own x)) (upd (upd H1 dx (.own x)) x (.ins C dx [])) (δ1 ++ [some (.ins C [] [])]) σ ρ := A1.next px sm S3
  have rx : RT Y.X.K (γ1 ++ [x]) (upd F1 dx (.own x)) (.al δ1.length) (.ref x) := ⟨x, by rw [← S1.len]; exact get_last, rfl⟩
  refine ⟨Y.N, γ1 ++ [x], _, _, _, _, _, S3, hR _ _ _ as _ vs rx (R1.mono px sm) l1, k1, fun v H' z => ?_, fun cls d H' z => OutX.outW A2 z⟩
  obtain ⟨γ3, F3, d3, δ3, p3, q3, S3, R3, e3, k3⟩ := z
  subst e3
  exact ⟨R3.non, γ3, F3, .al δ1.length, δ3, p1.trans (px.trans p3), q1.trans (sm.trans q3), S3, ⟨x, pre_get p3 (by rw [← S1.len]; exact get_last), rfl⟩, k3⟩
/-! ### lists, tuples, texts by built-ins -/
theorem c_lenL (hd : res δ da = .lst ds) (q : Q (.int ds.length) δ) : CallD Y ρ (.builtin "len") [da] δ Q := call_of call_len_seq fun σ γ F H xs A r => by
  obtain ⟨x, rfl, r1⟩ := r.one
  obtain ⟨a, ys, rfl, h1, h2⟩ := res_lst A.s r1 hd
  exact ⟨a, ys, rfl, .inl h1, Out.here A.s rt_int (by rw [h2.len]; exact q)⟩
theorem c_lenT (q : Q (.int ds.length) δ) : CallD Y ρ (.builtin "len") [.tup ds] δ Q := call_of call_len_seq fun σ γ F H xs A r => by
  obtain ⟨x, rfl, r1⟩ := r.one
  obtain ⟨a, ys, rfl, h1, h2, _⟩ := res_tup A.s r1 rfl
  exact ⟨a, ys, rfl, .inr h1, Out.here A.s rt_int (by rw [h2.len]; exact q)⟩
theorem c_all {bs : List Bool} (hc : Y.X.calm = true) (hd : res δ da = .lst (bs.map D.bl)) (q : Q (.bl (bs.all id)) δ) : CallD Y ρ (.builtin "all") [da] δ Q := call_of (cr_all hc) fun σ γ F H xs A r => by
  obtain ⟨x, rfl, r1⟩ := r.one
  obtain ⟨a, ys, rfl, h1, h2⟩ := res_lst A.s r1 hd
  have e : ys = bs.map V.bl := by
    clear h1 r1 r hd q
    induction bs generalizing ys with
    | nil => cases h2; rfl
    | cons b bs ih =>
      obtain ⟨x, t, rfl, r1, r2⟩ := h2
      cases r1.bl
      rw [ih t r2]; rfl
  subst e
  exact ⟨a, bs, rfl, h1, Out.here A.s rt_bl q⟩
/-- list(xs), a new list of the store -/
theorem c_listO (hd : res δ da = .lst ds ∨ da = .tup ds) (q : Q (.al δ.length) (δ ++ [some (.lst ds)])) : CallD Y ρ (.type "list") [da] δ Q := call_of call_list_of fun σ γ F H xs A r => by
  obtain ⟨x, rfl, r1⟩ := r.one
  have : ∃ a ys, x = .ref a ∧ (SqL Y.X.K H a ys ∨ SqT Y.X.K H a ys) ∧ RTs Y.X.K γ F ds ys := by
    rcases hd with hd | rfl
    · obtain ⟨a, ys, rfl, h1, h2⟩ := res_lst A.s r1 hd
      exact ⟨a, ys, rfl, .inl h1, h2⟩
    · obtain ⟨a, ys, rfl, h1, h2, _⟩ := res_tup A.s r1 rfl
      exact ⟨a, ys, rfl, .inr h1, h2⟩
  obtain ⟨a, ys, rfl, h1, h2⟩ := this
  refine ⟨a, ys, rfl, h1, fun l hl => ?_⟩
  have px : γ <+: γ ++ [l] := ⟨[l], rfl⟩
  have S := A.s.made (o := .lst ys) (d := .lst ds) hl ⟨ys, upd_same, h2.mono px (Same.refl _)⟩
  exact ⟨γ ++ [l], F, .al δ.length, _, px, Same.refl _, S, ⟨l, by rw [← A.s.len]; exact get_last, rfl⟩, q⟩
theorem c_listF (hd : res δ da = .lst ds ∨ da = .tup ds) (hn : noAl ds = true) (q : Q (.lst ds) δ) : CallD Y ρ (.type "list") [da] δ Q := call_of call_list_of fun σ γ F H xs A r => by
  obtain ⟨x, rfl, r1⟩ := r.one
  have : ∃ a ys, x = .ref a ∧ (SqL Y.X.K H a ys ∨ SqT Y.X.K H a ys) ∧ RTs Y.X.K γ F ds ys := by
    rcases hd with hd | rfl
    · obtain ⟨a, ys, rfl, h1, h2⟩ := res_lst A.s r1 hd
      exact ⟨a, ys, rfl, .inl h1, h2⟩
    · obtain ⟨a, ys, rfl, h1, h2, _⟩ := res_tup A.s r1 rfl
      exact ⟨a, ys, rfl, .inr h1, h2⟩
  obtain ⟨a, ys, rfl, h1, h2⟩ := this
  refine ⟨a, ys, rfl, h1, fun l hl => ?_⟩
  obtain ⟨S, sm⟩ := A.s.frozen (o := .lst ys) hl
  exact ⟨γ, _, .lst ds, _, pre_refl, sm, S, Rep.rt (by rw [Rep]; exact ⟨l, ys, rfl, SqL.of upd_same, Reps.mono sm _ (h2.reps hn)⟩), q⟩
/-- {} of the store -/
theorem we_dnew (q : Q (.al δ.length) (δ ++ [some (.dct [] [])])) : WE Y (.Dict [] [] pos) ρ δ Q := .mk fun σ γ F H A => t_of pe_dnewK fun p hp => by
  have px : γ <+: γ ++ [p] := ⟨[p], rfl⟩
  have S := A.s.made (o := .dK []) (d := .dct [] []) hp ⟨[], upd_same, rfl, RTs.nil⟩
  exact ⟨γ ++ [p], F, .al δ.length, _, px, Same.refl _, S, ⟨p, by rw [← A.s.len]; exact get_last, rfl⟩, q⟩
/-- xs.append(e), xs in the store -/
theorem ws_append {T : DE} {apos cpos : Pos} (h : WE Y o ρ δ fun d δ1 => ∃ j ds, d = .al j ∧ δ1[j]? = some (some (.lst ds)) ∧ WE Y e ρ δ1 fun v δ2 => ∃ ds', δ2[j]? = some (some (.lst ds')) ∧ ds'.length < sizeLine ∧ T.nx ρ (δ2.set j (some (.lst (ds' ++ [v]))))) (hs : swapsWith (.Call (.Attribute o "append" apos) [e] [] cpos) none pos.line Y.X.env = pure false := by rfl)
    (hbase : attributeBase o "append" Y.X.env (eval o Y.X.env) = eval o Y.X.env := by rfl)
    (hfew : ((backTo cpos (starEach [e] Y.X.env)).all (fun x => !x.1) && (backToKw cpos (keywordEach [] Y.X.env)).all (fun x => x.1.isSome) && decide ([e].length + ([] : List Keyword).length + (if ([] : List Keyword).isEmpty then 0 else 1) < 30)) = true := by rfl)
    (hline : (apos.endLine == cpos.line) = true := by rfl) (hst : starEach [e] Y.X.env = (false, eval e Y.X.env) :: starEach [] Y.X.env := by rfl) (hplain : (backTo cpos (starEach [] Y.X.env)).any (·.1) = false := by rfl) :
    WS Y (.Expr (.Call (.Attribute o "append" apos) [e] [] cpos) pos) ρ δ T := .mk fun σ γ F H A => s_of (ps_expr (pe_bm PySem.F.plainAttrs_list PySem.F.slot_list_append PySem.F.type_list_append mt_append pe_sem (pa_cons pe_sem pa_nil hst) hbase hfew hline hst hplain) hs)
  (h.bind A fun v H1 γ1 F1 d δ1 p1 q1 A1 r1 k1 => by
    obtain ⟨j, ds, rfl, e1, k1⟩ := k1
    obtain ⟨a, ha, ⟨xs, h1, h2⟩, _⟩ := A1.s.at e1
    obtain ⟨a', ha', rfl⟩ := r1
    rw [ha] at ha'; cases ha'
    refine ⟨.inl ⟨rfl, _, SqL.of h1⟩, ?_⟩
    refine k1.bind A1 fun u H2 γ2 F2 d2 δ2 p2 q2 A2 r2 k2 => ?_
    obtain ⟨ds', e2, hl, k2⟩ := k2
    obtain ⟨a2, ha2, ⟨xs2, g1, g2⟩, _⟩ := A2.s.at e2
    have : a2 = a := by have := pre_get p2 ha; rw [ha2] at this; exact Option.some.inj this
    subst this
    refine ⟨a2, xs2, u, rfl, rfl, g1, by rw [g2.len]; exact hl, ?_⟩
    have S := A2.s.put (o := .lst (xs2 ++ [u])) (d := .lst (ds' ++ [d2])) ha2 e2 ⟨_, upd_same, g2.append (RTs.cons r2 RTs.nil)⟩
    exact ⟨γ2, F2, ρ, _, p1.trans p2, q1.trans q2, S, A2.e, k2⟩)
/-! ### targets -/
theorem wgn_name {i : Nat} {M : En → Sto → Prop} {d : D} (nd : Y.X.N.Nodup) (hN : Y.X.N.idxOf? x = some i) (h : M (ρ.set i (some d)) δ) (hi : Y.X.N[i]? = some x := by rfl) (hx : Loc Y.X.env.scope x := by first | exact Or.inl rfl | exact Or.inr rfl) (hf : Y.X.fn x = true ∨ Y.X.env.scope.names.lookup x = some .local := by first | exact .inl rfl | exact .inr rfl) : WG Y (.Name x pos) d ρ δ M := wg_name i h nd hi hx hf
/-- a, b = (d, e) -/
theorem wg_two {y : Str} {i j : Nat} {px py : Pos} {kt : Nat} {M : En → Sto → Prop} {d e : D} (hc : Y.X.calm = true) (nd : Y.X.N.Nodup) (hNi : Y.X.N.idxOf? x = some i) (hNj : Y.X.N.idxOf? y = some j) (h : M ((ρ.set i (some d)).set j (some e)) δ) (hi : Y.X.N[i]? = some x := by rfl) (hj : Y.X.N[j]? = some y := by rfl)
    (hx : Loc Y.X.env.scope x := by first | exact Or.inl rfl | exact Or.inr rfl) (hy : Loc Y.X.env.scope y := by first | exact Or.inl rfl | exact Or.inr rfl) (hfx : Y.X.fn x = true ∨ Y.X.env.scope.names.lookup x = some .local := by first | exact .inl rfl | exact .inr rfl) (hfy : Y.X.fn y = true ∨ Y.X.env.scope.names.lookup y = some .local := by first | exact .inl rfl | exact .inr rfl)
    (hn : (assignEach [.Name x px, .Name y py] Y.X.env).length = 2 := by rfl) (hst : (assignEach [.Name x px, .Name y py] Y.X.env).findIdx? (·.1) = none := by rfl)
    (h1 : (assignEach [.Name x px, .Name y py] Y.X.env).map (·.2) = assign (.Name x px) Y.X.env :: (assignEach [.Name y py] Y.X.env).map (·.2) := by rfl) (h2 : (assignEach [.Name y py] Y.X.env).map (·.2) = assign (.Name y py) Y.X.env :: (assignEach [] Y.X.env).map (·.2) := by rfl) :
    WG Y (.Tuple [.Name x px, .Name y py] kt pos) (.tup [d, e]) ρ δ M := .mk fun σ γ F H v A r => by
  refine g_of (pg_tup hc (pgs_cons (pg_name nd hi hx hfx) (pgs_cons (pg_name nd hj hy hfy) pgs_nil h2) h1) hn hst) ?_
  obtain ⟨a, xs, rfl, g1, g2, _⟩ := res_tup A.s r rfl
  obtain ⟨u, w, rfl, ru, rw'⟩ := g2.two
  exact ⟨a, _, rfl, g1, rfl, u, _, rfl, w, _, rfl, rfl, OutS.here A.s ((A.e.set ru).set rw') h⟩
end
end PV
namespace PV
open PySem PySem.Spec PyProof.Rows L2
def tyNm : D → Option String
  | .non => some "NoneType"
  | .bl _ => some "bool"
  | .int _ => some "int"
  | .str _ => some "str"
  | .lst _ => some "list"
  | .tup _ => some "tuple"
  | .dct _ _ => some "dict"
  | _ => none
def isNm (t n : String) : Bool := t == n || (t == "bool" && n == "int")
theorem kit_nm {K : PySem.W.Frag} {t n : String} (ht : t ∈ ["NoneType", "bool", "int", "str", "list", "tuple", "dict"]) (hn : n ∈ ["int", "bool", "str", "list", "tuple", "dict"]) : PySem.W.kitOne K (.type t) (.type n) = some (isNm t n) := by
  simp only [List.mem_cons, List.not_mem_nil, or_false] at ht hn
  rcases ht with rfl | rfl | rfl | rfl | rfl | rfl | rfl <;> rcases hn with rfl | rfl | rfl | rfl | rfl | rfl <;> kernel_rfl
theorem tyD_nm {K : PySem.W.Frag} {δ : Sto} {d : D} {t : String} (h : tyNm d = some t) : TyD K δ d (.type t) ∧ t ∈ ["NoneType", "bool", "int", "str", "list", "tuple", "dict"] := by
  cases d with
  | non => cases h; exact ⟨.non, by decide⟩
  | bl b => cases h; exact ⟨.bl b, by decide⟩
  | int b => cases h; exact ⟨.int b, by decide⟩
  | str b => cases h; exact ⟨.str b, by decide⟩
  | lst b => cases h; exact ⟨.lst rfl, by decide⟩
  | tup b => cases h; exact ⟨.tup, by decide⟩
  | dct a b => cases h; exact ⟨.dct rfl, by decide⟩
  | _ => cases h
section
variable {Y : PX} {ρ : En} {δ : Sto} {Q : D → Sto → Prop} {d : D} {n t : String} {ds : List D} {ks : List Key} {C C' : Addr} {ns : List Str}
/-- isinstance(d, n), a written datum and a built-in class -/
theorem c_isB (h : tyNm d = some t) (hn : n ∈ ["int", "bool", "str", "list", "tuple", "dict"]) (q : Q (.bl (isNm t n)) δ) : CallD Y ρ (.builtin "isinstance") [d, .ty n] δ Q := by
  obtain ⟨ty, ht⟩ := tyD_nm (K := Y.X.K) (δ := δ) h
  exact c_isi ty (kit_nm ht hn) q
theorem c_isL (h : res δ d = .lst ds) (hn : n ∈ ["int", "bool", "str", "list", "tuple", "dict"]) (q : Q (.bl (isNm "list" n)) δ) : CallD Y ρ (.builtin "isinstance") [d, .ty n] δ Q := c_isi (.lst h) (kit_nm (by decide) hn) q
theorem c_isDc (h : res δ d = .dct ks ds) (hn : n ∈ ["int", "bool", "str", "list", "tuple", "dict"]) (q : Q (.bl (isNm "dict" n)) δ) : CallD Y ρ (.builtin "isinstance") [d, .ty n] δ Q := c_isi (.dct h) (kit_nm (by decide) hn) q
theorem c_isO {b : Bool} (h : res δ d = .ins C ns ds) (T : InsT Y.X.K C) (hk : PySem.W.kitOne Y.X.K (.ref C) (.ref C') = some b) (q : Q (.bl b) δ) : CallD Y ρ (.builtin "isinstance") [d, .gl C'] δ Q := c_isiO (.ins h T) hk q
/-- isinstance(d, C'), a written datum and an own class: no -/
theorem c_isBO (h : tyNm d = some t) (hk : PySem.W.kitOne Y.X.K (.type t) (.ref C') = some false) (q : Q (.bl false) δ) : CallD Y ρ (.builtin "isinstance") [d, .gl C'] δ Q := c_isiO (tyD_nm h).1 hk q
end
end PV
namespace PV
open PySem PySem.Spec PyProof.Rows L2
theorem get_set {δ : Sto} {j : Nat} {x y : Option D} (h : δ[j]? = some x) : (δ.set j y)[j]? = some y := List.getElem?_set_self (List.getElem?_eq_some_iff.mp h).1
theorem scoped_set {δ : Sto} {j : Nat} {o : D} (sc : Scoped δ) (h : match o with | .lst ds => noAl ds = true | .dct _ ds => noAl ds = true | .ins _ _ ds => noAl ds = true | _ => True) : Scoped (δ.set j (some o)) := by
  have na : ∀ {ds : List D} {k : Nat}, noAl ds = true → D.al k ∈ ds → False := fun {ds k} h m => by
    have := List.all_eq_true.mp h _ m
    cases this
  intro i o' e k hk
  rw [List.length_set]
  by_cases hi : i = j
  · subst hi
    rw [List.getElem?_set] at e
    split at e
    · rename_i hlt
      split at e
      · cases e
        cases o with
        | lst ds => exact (na h hk).elim
        | dct ks ds => exact (na h hk).elim
        | ins C ns ds => exact (na h hk).elim
        | _ => exact hk.elim
      · cases e
    · rename_i hne; exact absurd rfl hne
  · rw [List.getElem?_set_ne (Ne.symm hi)] at e
    exact sc i o' e k hk
theorem scoped_app {δ : Sto} {o : D} (sc : Scoped δ) (h : match o with | .lst ds => noAl ds = true | .dct _ ds => noAl ds = true | .ins _ _ ds => noAl ds = true | _ => True) : Scoped (δ ++ [some o]) := by
  have na : ∀ {ds : List D} {k : Nat}, noAl ds = true → D.al k ∈ ds → False := fun {ds k} h m => by
    have := List.all_eq_true.mp h _ m
    cases this
  intro i o' e k hk
  rw [List.length_append]
  by_cases hi : i < δ.length
  · rw [List.getElem?_append_left hi] at e
    exact Nat.lt_of_lt_of_le (sc i o' e k hk) (Nat.le_add_right _ _)
  · have : i = δ.length := by have := (List.getElem?_eq_some_iff.mp e).1; simp at this; omega
    subst this
    rw [List.getElem?_append_right (Nat.le_refl _), Nat.sub_self] at e
    cases e
    cases o with
    | lst ds => exact (na h hk).elim
    | dct ks ds => exact (na h hk).elim
    | ins C ns ds => exact (na h hk).elim
    | _ => exact hk.elim
/-- the answer behind a changed store -/
theorem harvS {R : RK} {d : D} {δ δ0 : Sto} (hl : δ0.length ≤ δ.length) (sc : Scoped δ) (h : R d δ) (hd : d.isAl = false := by rfl) : Harv δ0.length R d δ := .here hl sc (fun k e => by rw [e] at hd; cases hd) h
section
variable {Y : PX} {ρ : En} {δ : Sto} {Q : D → Sto → Prop} {i j : Int}
theorem bin_fdiv (h : 0 < j) (hb : j.natAbs < 2 ^ 9000) (q : Q (.int (i / j)) δ) : BinD Y ρ .FloorDiv (.int i) (.int j) δ Q := bin_of op_fdivW fun σ γ F H x y A ra rb => by
  cases ra.int; cases rb.int; exact ⟨i, j, rfl, rfl, wide_div h hb (by decide) (by decide), Out.here A.s rt_int q⟩
theorem bin_mulW {a b : Nat} (ha : i.natAbs < 2 ^ a) (hb : j.natAbs < 2 ^ b) (h : a + b ≤ 1000000) (q : Q (.int (i * j)) δ) : BinD Y ρ .Mult (.int i) (.int j) δ Q := bin_mul (by
  have ha' : i.natAbs < 2 ^ (a + 1) := Nat.lt_of_lt_of_le ha (Nat.pow_le_pow_right (by decide) (by omega))
  have hb' : j.natAbs < 2 ^ (b + 1) := Nat.lt_of_lt_of_le hb (Nat.pow_le_pow_right (by decide) (by omega))
  have x := PySem.Flt.log2_lt_of (by omega) ha'
  have y := PySem.Flt.log2_lt_of (by omega) hb'
  by_cases z : a + b + 2 ≤ 1000000
  · exact (show CMulW i j by unfold CMulW; omega).ok
  · by_cases h0 : a = 0
    · subst h0; simp at ha; subst ha; exact IntMulOk.of_left (by decide)
    · by_cases h1 : b = 0
      · subst h1; simp at hb; subst hb; exact IntMulOk.of_right (by decide)
      · exact (wide_mul ha hb (by omega) (by omega) h).ok) q
/-- a small left factor -/
theorem bin_mulL (h : -(2 ^ 64) < i ∧ i < 2 ^ 64) (q : Q (.int (i * j)) δ) : BinD Y ρ .Mult (.int i) (.int j) δ Q := bin_mul (IntMulOk.of_left (intBits_le_64 h.1 h.2)) q
theorem bin_mulR (h : -(2 ^ 64) < j ∧ j < 2 ^ 64) (q : Q (.int (i * j)) δ) : BinD Y ρ .Mult (.int i) (.int j) δ Q := bin_mul (IntMulOk.of_right (intBits_le_64 h.1 h.2)) q
theorem bin_powI (h : 0 ≤ j ∧ j ≤ 1000000 ∧ i.natAbs < 2 ^ 64) (q : Q (.int (i ^ j.toNat)) δ) : BinD Y ρ .Pow (.int i) (.int j) δ Q := bin_of op_pow fun σ γ F H x y A ra rb => by
  cases ra.int; cases rb.int; exact ⟨i, j, rfl, rfl, h, Out.here A.s rt_int q⟩
end
end PV
namespace PV
open PySem PySem.Spec PyProof.Rows L2
section
variable {Y : PX} {e tg iter : Expr} {body sts : List Stmt} {ρ : En} {δ : Sto} {pos : Pos} {T : DE}
/-- a loop over things that are written out -/
def ForN (Y : PX) (tg : Expr) (body : List Stmt) (T : DE) (Cd : Sto → Prop) : List D → En → Sto → Prop
  | [], ρ, δ => Cd δ ∧ T.nx ρ δ
  | d :: ds, ρ, δ => Cd δ ∧ WG Y tg d ρ δ fun ρ2 δ2 => WSs Y body ρ2 δ2 ⟨ForN Y tg body T Cd ds, T.rt, T.nx, ForN Y tg body T Cd ds⟩
theorem ForN.cd {Cd : Sto → Prop} {ds : List D} (h : ForN Y tg body T Cd ds ρ δ) : Cd δ := by
  cases ds with
  | nil => exact h.1
  | cons d ds => exact h.1
theorem ws_forN (hc : Y.X.calm = true) (h : WI Y tg iter ρ δ fun ds Cd δ1 => ForN Y tg body T Cd ds ρ δ1) (hs : ∀ x, foldedSetIterable iter Y.X.env x = pure x := by intro _; rfl) : WS Y (.For tg iter body [] pos) ρ δ T :=
  ws_for hc (.mk fun σ γ F H A => (h.run σ γ F H A).mono fun J H' ⟨γ1, F1, ds, Cd, δ1, p, q, S, yl, k⟩ => ⟨γ1, F1, ds, Cd, δ1, p, q, S, yl, fun i ρ' δ' => ForN Y tg body T Cd (ds.drop i) ρ' δ', k, fun i ρ' δ' _ z => z.cd, fun i d ρ' δ' e z => by
    have hi := (List.getElem?_eq_some_iff.mp e).1
    have hd : ds.drop i = d :: ds.drop (i + 1) := by
      rw [List.drop_eq_getElem_cons hi]
      rw [(List.getElem?_eq_some_iff.mp e).2]
    have z : ForN Y tg body T Cd (ds.drop i) ρ' δ' := z
    rw [hd] at z
    exact z.2, fun ρ' δ' z => by
    have z : ForN Y tg body T Cd (ds.drop ds.length) ρ' δ' := z
    rw [List.drop_length] at z
    exact z.2⟩) hs
/-- given up: some things of the store -/
theorem wss_kill {δ' : Sto} (k : Kill δ δ') (h : WSs Y sts ρ δ' T) : WSs Y sts ρ δ T := .mk fun σ γ F H A => h.run σ γ F H ⟨A.g, A.f, A.s.kill k, A.e⟩
end
end PV
namespace PV
open PySem PySem.Spec PyProof.Rows L2
section
variable {Y : PX} {e tg iter : Expr} {body sts : List Stmt} {ρ : En} {δ : Sto} {pos : Pos} {T : DE}
theorem WG.monoM {d : D} {M M' : En → Sto → Prop} (h : WG Y tg d ρ δ M) (m : ∀ ρ δ, M ρ δ → M' ρ δ) : WG Y tg d ρ δ M' := .mk fun σ γ F H v A r => (h.run σ γ F H v A r).mono fun _ _ ⟨γ', F', ρ', δ', p, s, S, E, z⟩ => ⟨γ', F', ρ', δ', p, s, S, E, m _ _ z⟩
theorem forN_loop {α : Type} {Cd : Sto → Prop} {I : List α → En → Sto → Prop} {g : α → D} (step : ∀ a r ρ δ, I (a :: r) ρ δ → Cd δ ∧ WG Y tg (g a) ρ δ fun ρ2 δ2 => WSs Y body ρ2 δ2 ⟨I r, T.rt, T.nx, I r⟩)
    (fin : ∀ ρ δ, I [] ρ δ → Cd δ ∧ T.nx ρ δ) : ∀ l ρ δ, I l ρ δ → ForN Y tg body T Cd (l.map g) ρ δ
  | [], ρ, δ, h => fin ρ δ h
  | a :: r, ρ, δ, h => by
    obtain ⟨h1, h2⟩ := step a r ρ δ h
    exact ⟨h1, h2.monoM fun ρ2 δ2 z => z.mono (fun _ _ q => forN_loop step fin r _ _ q) (fun _ _ q => q) (fun _ _ q => q) fun _ _ q => forN_loop step fin r _ _ q⟩
end
end PV
/-! == of dicts whose values are compared by calls -/
namespace GQ3
open PySem PySem.Spec PyProof.Rows PyProof.V PySem.W PySem.Calls
section
variable {prog : Program} {w : World} {K : Type} [DecidableEq K] {knd : KeyKind prog w K} {A : Around} {E : Value → Shared → Prop} {s : Shared}
theorem samePairsB {nm : String} {a b : Addr} {ka kb : List (K × Value)} {oa ob : Obj} {Q : Bool → Shared → Prop} (ha : (a == sysModules) = false) (hb : (b == sysModules) = false)
    (da : s.heap.DictOf knd a ka) (db : s.heap.DictOf knd b kb) (ga : s.heap.get? a = some oa) (gb : s.heap.get? b = some ob) (hl : ka.length = kb.length) (I : Nat → Shared → Prop) (J : Shared → Prop)
    (hI : ∀ i s', I i s' → s'.heap.get? a = some oa ∧ s'.heap.get? b = some ob)
    (turn : ∀ (i : Nat) k v s', ka[i]? = some (k, v) → I i s' → (valueAt kb k = none → J s') ∧ ∀ y, valueAt kb k = some y → wpAny (model prog w) A (eqBool v y) (fun r s2 => (r = true → I (i + 1) s2) ∧ (r = false → J s2)) E s')
    (h0 : I 0 s) (fin : ∀ s', I ka.length s' → Q true s') (finJ : ∀ s', J s' → Q false s') :
    wpAny (model prog w) A (Builtin.Dict.samePairs nm a b) Q E s := by
  obtain ⟨oa', es, ep, hoa, _, hda, hka, hpa, _⟩ := da
  obtain ⟨ob', es', ep', hob, _, hdb, hkb, hpb, _⟩ := db
  rw [ga] at hoa; cases hoa
  rw [gb] at hob; cases hob
  have hla : ka.length = es.size := by rw [← hpa.length]; exact Array.length_toList
  have hlb : kb.length = es'.size := by rw [← hpb.length]; exact Array.length_toList
  have hfind : ∀ k, findBy knd.is es' k = valueAt kb k := fun k => by
    rw [← hpb.find k]
    clear hlb hpb hkb hdb
    obtain ⟨l⟩ := es'
    simp [findBy]
  have hsz : es.size = es'.size := by omega
  unfold Builtin.Dict.samePairs Builtin.Dict.showsAll
  rw [if_neg (show ¬ (a == sysModules) = true by rw [ha]; exact Bool.false_ne_true), if_neg (show ¬ (b == sysModules) = true by rw [hb]; exact Bool.false_ne_true)]
  refine wpAny_bind (wpAny_pure (wpAny_bind (wpAny_pure ?_)))
  refine wpAny_bind (wpAny_dictEntries ga hda ?_)
  dsimp only
  refine wpAny_bind (wpAny_dictEntries gb hdb ?_)
  rw [if_neg (by rw [hsz]; simp)]
  refine wpAny_bind (wpAny_dictEpoch ga hda ?_)
  refine wpAny_bind ?_
  rw [Std.Legacy.Range.forIn_eq_forIn_range']
  simp only [Std.Legacy.Range.size, Nat.sub_zero, Nat.add_sub_cancel, Nat.div_one]
  refine wpAny_forIn_list _
    (fun rest q s' => q = (none, ()) ∧ ∃ i, rest = List.range' i (es.size - i) ∧ i ≤ es.size ∧ I i s')
    _ ?_ ?_ _ _ ⟨rfl, 0, by simp, Nat.zero_le _, h0⟩
  · rintro x rest q s' ⟨rfl, i, hr, hi, hpre⟩
    obtain ⟨gA, gB⟩ := hI i s' hpre
    have hlt : i < es.size := by
      rcases Nat.lt_or_ge i es.size with h | h
      · exact h
      · rw [Nat.sub_eq_zero_of_le h] at hr; simp at hr
    obtain ⟨rfl, hrest⟩ : x = i ∧ rest = List.range' (i + 1) (es.size - (i + 1)) := by
      have e : es.size - i = (es.size - (i + 1)) + 1 := by omega
      rw [e, List.range'_succ] at hr
      injection hr with h1 h2
      exact ⟨h1, h2⟩
    refine wpAny_bind (wpAny_dictEntries gA hda ?_)
    rw [Array.getElem?_eq_getElem hlt]
    have hlt' : x < ka.length := by rw [hla]; exact hlt
    obtain ⟨k, v, hkv⟩ : ∃ k v, ka[x] = (k, v) := ⟨_, _, rfl⟩
    have hkv' : ka[x]? = some (k, v) := by rw [List.getElem?_eq_getElem hlt', hkv]
    obtain ⟨hkey, hval⟩ := hpa.get? (i := x) (e := es[x]) (k := k) (v := v) (by rw [Array.getElem?_toList]; exact Array.getElem?_eq_getElem hlt) hkv'
    obtain ⟨k', hk', hh⟩ := hka es[x] (Array.getElem_mem hlt)
    have ekk : k' = k := knd.inj _ _ _ hk' hkey
    rw [ekk] at hh
    obtain ⟨t1, t2⟩ := turn x k v s' hkv' hpre
    show wpAny _ _ (holding [es[x].key, es[x].val] _ >>= _) _ _ _
    rw [hh]
    refine wpAny_bind (wpAny_holding (wpAny_bind (wpAny_dictFind_of hkey gB hdb hkb ?_)))
    cases hj : es'.findIdx? fun e => knd.is k e.key with
    | none =>
      have hn : valueAt kb k = none := by rw [← hfind k, findBy_of_findIdx?, hj]
      refine wpAny_pure ?_
      show wpAny _ _ (if (!false) = true then _ else _) _ _ _
      rw [if_pos (by decide)]
      exact wpAny_pure (wpAny_pure (finJ _ (t1 hn)))
    | some j =>
      obtain ⟨hjlt, _, _⟩ := Array.findIdx?_eq_some_iff_getElem.mp hj
      have hv' : valueAt kb k = some es'[j].val := by
        rw [← hfind k, findBy_of_findIdx?, hj]
        simp [Array.getElem?_eq_getElem hjlt]
      refine wpAny_bind (wpAny_dictEntries gB hdb ?_)
      rw [Array.getElem?_eq_getElem hjlt]
      have he := t2 _ hv'
      rw [← hval] at he
      refine wpAny_holding (wpAny_mono he (fun r s2 z => ?_) fun _ _ x => x)
      cases r with
      | false =>
        show wpAny _ _ (if (!false) = true then _ else _) _ _ _
        rw [if_pos (by decide)]
        exact wpAny_pure (wpAny_pure (finJ _ (z.2 rfl)))
      | true =>
        have z := z.1 rfl
        show wpAny _ _ (if (!true) = true then _ else _) _ _ _
        rw [if_neg (by decide)]
        refine wpAny_bind (wpAny_dictEpoch (hI _ _ z).1 hda ?_)
        rw [if_neg (by simp)]
        exact wpAny_pure ⟨rfl, x + 1, hrest, hlt, z⟩
  · rintro q s' ⟨rfl, i, hr, hi, hpre⟩
    have hin : i = es.size := by
      rcases Nat.lt_or_ge i es.size with h | h
      · have e : es.size - i = (es.size - (i + 1)) + 1 := by omega
        rw [e, List.range'_succ] at hr; exact nomatch hr
      · exact Nat.le_antisymm hi h
    refine wpAny_pure ?_
    rw [hin, ← hla] at hpre
    exact fin _ hpre
theorem rc_dictB (ne : Bool) {a b : Addr} {ka kb : List (K × Value)} {Q : Value → Shared → Prop} (da : s.heap.DictOf knd a ka) (db : s.heap.DictOf knd b kb) (hu : A.units < cLine)
    (h : ∀ nm, wpAny (model prog w) A.in1 (Builtin.Dict.samePairs nm a b) (fun r s' => Q (.bool (ne ^^ r)) s') E s) :
    wpAny (model prog w) A (richCompare (if ne then .NotEq else .Eq) (.ref a) (.ref b)) Q E s := by
  cases ne with
  | false =>
    refine wpAny_richCompare_same_room (op := .Eq) da.typeIs db.typeIs PySem.F.slot_dict_eq (wpAny_call_entry PySem.F.slot_dict_eq da.typeIs PySem.F.entry_dict_eq ?_ (PySem.F.args_dict_eq_2 _ _)) hu
    show wpAny _ _ (Builtin.Dict.dictSlotArgs "__eq__" ⟨[.ref a, .ref b], []⟩ >>= _) _ _ s
    refine wpAny_bind ?_
    unfold Builtin.Dict.dictSlotArgs
    refine wpAny_bind (wpAny_notOrdered_dict da.typeIs ?_)
    show wpAny _ _ (pure (Value.ref a, Value.ref b)) _ _ s
    refine wpAny_pure ?_
    refine wpAny_bind (wpAny_isInstance (T := "dict") db.typeIs PySem.F.sub_dict_dict ?_)
    simp only [Bool.not_true, Bool.false_eq_true, if_false]
    refine wpAny_bind (wpAny_pure (wpAny_bind (wpAny_pure ?_)))
    refine wpAny_bind (wpAny_mono (h _) (fun r s' z => ?_) fun _ _ x => x)
    refine wpAny_pure ⟨_, rfl, ?_, ?_⟩
    · exact fun x => nomatch x
    · simpa using z
  | true =>
    refine wpAny_richCompare_same_room (op := .NotEq) da.typeIs db.typeIs PySem.F.slot_dict_ne (wpAny_call_entry PySem.F.slot_dict_ne da.typeIs PySem.F.entry_dict_ne ?_ (PySem.F.args_dict_ne_2 _ _)) hu
    show wpAny _ _ (Builtin.Dict.dictSlotArgs "__ne__" ⟨[.ref a, .ref b], []⟩ >>= _) _ _ s
    refine wpAny_bind ?_
    unfold Builtin.Dict.dictSlotArgs
    refine wpAny_bind (wpAny_notOrdered_dict da.typeIs ?_)
    show wpAny _ _ (pure (Value.ref a, Value.ref b)) _ _ s
    refine wpAny_pure ?_
    refine wpAny_bind (wpAny_isInstance (T := "dict") db.typeIs PySem.F.sub_dict_dict ?_)
    simp only [Bool.not_true, Bool.false_eq_true, if_false]
    refine wpAny_bind (wpAny_pure (wpAny_bind (wpAny_pure ?_)))
    refine wpAny_bind (wpAny_mono (h _) (fun r s' z => ?_) fun _ _ x => x)
    refine wpAny_pure ⟨_, rfl, ?_, ?_⟩
    · exact fun x => nomatch x
    · simpa using z
end
end GQ3
namespace PV
open PySem PySem.Spec PyProof.Rows L2
section
variable {K : PySem.W.Frag} {N F F' H H' : Hp} {γ : List Addr} {δ : Sto} {j : Nat} {a : Addr}
/-- a dict of the store is locked: it stands in the frame -/
theorem RepS.lockD {ks : List Key} {ds : List D} {od : Obj} {u : HO} (S : RepS K N γ F H δ) (ha : γ[j]? = some a) (hj : δ[j]? = some (some (.dct ks ds))) : RepS K (upd N a (.frz od u)) γ F (upd H a (.frz od u)) (δ.set j none) := by
  obtain ⟨hF, hN⟩ := S.off j a _ ha hj
  have ne : ∀ (i : Nat) b d, γ[i]? = some b → (δ.set j none)[i]? = some (some d) → b ≠ a ∧ δ[i]? = some (some d) := fun i b d e1 e2 => by
    by_cases hi : i = j
    · subst hi; rw [List.getElem?_set] at e2; simp at e2
    · rw [List.getElem?_set_ne (Ne.symm hi)] at e2
      exact ⟨fun z => hi (nd_ix S.nd (z ▸ e1) ha), e2⟩
  refine ⟨fun b v e => ?_, fun b v e => ?_, fun b v e => ?_, fun b hb o e => ?_, by simpa using S.len, S.nd, fun b hb => ?_, fun i b d e1 e2 => ?_, fun i b d e1 e2 => ?_⟩
  · rw [upd_ne (ne_of_none e hF)]; exact S.sub _ _ e
  · by_cases hb : b = a
    · subst hb; rw [upd_same] at e ⊢; exact e
    · rw [upd_ne hb] at e ⊢; exact S.sub2 _ _ e
  · by_cases hb : b = a
    · subst hb; exact hF
    · rw [upd_ne hb] at e; exact S.dis b v e
  · by_cases hba : b = a
    · subst hba; rw [upd_same] at e; cases e; exact ⟨_, _, rfl⟩
    · rw [upd_ne hba] at e; exact S.disg b hb o e
  · by_cases hba : b = a
    · subst hba; exact ⟨_, upd_same⟩
    · obtain ⟨q, e⟩ := S.live b hb
      exact ⟨q, by rw [upd_ne hba]; exact e⟩
  · obtain ⟨q1, q2⟩ := ne i b d e1 e2
    rw [upd_ne q1]; exact S.off i b d e1 q2
  · obtain ⟨q1, q2⟩ := ne i b d e1 e2
    exact (S.obj i b d e1 q2).mono pre_refl (Same.refl _) (upd_ne q1)
/-- .. and is free again -/
theorem RepS.unlockD {ks : List Key} {ds : List D} {xs : List V} {od : Obj} (S : RepS K (upd N a (.frz od (.dK (ks.zip xs)))) γ F H (δ.set j none)) (hN : N a = none) (ha : γ[j]? = some a) (hj : δ[j]? = some (some (.dct ks ds))) (hl : ks.length = ds.length) (hr : RTs K γ F ds xs) : RepS K N γ F (upd H a (.dK (ks.zip xs))) δ := by
  have hF : F a = none := S.dis a _ upd_same
  have hlt : j < δ.length := (List.getElem?_eq_some_iff.mp hj).1
  refine ⟨fun b v e => ?_, fun b v e => ?_, fun b v e => ?_, fun b hb o e => ?_, by simpa using S.len, S.nd, fun b hb => ?_, fun i b d e1 e2 => ?_, fun i b d e1 e2 => ?_⟩
  · rw [upd_ne (ne_of_none e hF)]; exact S.sub _ _ e
  · have nb := ne_of_none e hN
    rw [upd_ne nb]; exact S.sub2 _ _ (by rw [upd_ne nb]; exact e)
  · exact S.dis b v (by rw [upd_ne (ne_of_none e hN)]; exact e)
  · exact S.disg b hb o (by rw [upd_ne (ne_of_none e hN)]; exact e)
  · by_cases hba : b = a
    · subst hba; exact ⟨_, upd_same⟩
    · obtain ⟨q, e⟩ := S.live b hb
      exact ⟨q, by rw [upd_ne hba]; exact e⟩
  · by_cases hi : i = j
    · subst hi; rw [ha] at e1; cases e1; exact ⟨hF, hN⟩
    · have nb : b ≠ a := fun z => hi (nd_ix S.nd (z ▸ e1) ha)
      obtain ⟨o1, o2⟩ := S.off i b d e1 (by rw [List.getElem?_set_ne (Ne.symm hi)]; exact e2)
      exact ⟨o1, by rw [upd_ne nb] at o2; exact o2⟩
  · by_cases hi : i = j
    · subst hi; rw [ha] at e1; cases e1
      rw [hj] at e2; cases e2
      exact ⟨xs, upd_same, hl, hr⟩
    · have nb : b ≠ a := fun z => hi (nd_ix S.nd (z ▸ e1) ha)
      exact (S.obj i b d e1 (by rw [List.getElem?_set_ne (Ne.symm hi)]; exact e2)).mono pre_refl (Same.refl _) (upd_ne nb)
end
/-- the context while things are locked: nothing may be raised -/
abbrev PX.lock (Y : PX) (N : Hp) (γ : List Addr) (F : Hp) : PX := ⟨Y.X, γ, F, N, fun _ _ _ _ => False, takes_no, Y.po⟩
/-- what two dicts give -/
def dctB (ks' : List Key) (es : List D) (f : D → D → Bool) : List Key → List D → Bool
  | k :: ks, d :: ds => (match lookK k ks' es with | none => false | some e => f d e) && dctB ks' es f ks ds
  | _, _ => true
section
variable {ks' : List Key} {es : List D} {f : D → D → Bool}
theorem dctB_take : ∀ {ks : List Key} {ds : List D} {i : Nat} {k : Key} {d e : D}, dctB ks' es f (ks.take i) (ds.take i) = true → ks[i]? = some k → ds[i]? = some d → lookK k ks' es = some e → f d e = true → dctB ks' es f (ks.take (i + 1)) (ds.take (i + 1)) = true
  | k0 :: ks, d0 :: ds, 0, k, d, e, h, h1, h2, h3, h4 => by simp at h1 h2; subst h1; subst h2; simp [dctB, h3, h4]
  | k0 :: ks, d0 :: ds, i + 1, k, d, e, h, h1, h2, h3, h4 => by
    simp at h1 h2
    rw [List.take_succ_cons, List.take_succ_cons, dctB, Bool.and_eq_true] at h
    rw [List.take_succ_cons, List.take_succ_cons, dctB, h.1, dctB_take h.2 h1 h2 h3 h4]; rfl
  | [], _, _, _, _, _, _, h1, _, _, _ => by simp at h1
  | _ :: _, [], _, _, _, _, _, _, h2, _, _ => by simp at h2
theorem dctB_get : ∀ {ks : List Key} {ds : List D} {i : Nat} {k : Key} {d : D}, dctB ks' es f (ks.take i) (ds.take i) = true → ks[i]? = some k → ds[i]? = some d → (∀ e, lookK k ks' es = some e → f d e = false) → dctB ks' es f ks ds = false
  | k0 :: ks, d0 :: ds, 0, k, d, h, h1, h2, h3 => by
    simp at h1 h2; subst h1; subst h2
    rw [dctB]
    cases q : lookK k0 ks' es with
    | none => rfl
    | some e => simp [h3 e q]
  | k0 :: ks, d0 :: ds, i + 1, k, d, h, h1, h2, h3 => by
    simp at h1 h2
    rw [List.take_succ_cons, List.take_succ_cons, dctB, Bool.and_eq_true] at h
    rw [dctB, h.1, dctB_get h.2 h1 h2 h3]; rfl
  | [], _, _, _, _, _, h1, _, _ => by simp at h1
  | _ :: _, [], _, _, _, _, _, h2, _ => by simp at h2
end
section
variable {Y : PX} {ρ : En} {δ : Sto} {n ja jb : Nat} {ks ks' : List Key} {ds es : List D}
theorem kv_get {kvs : List (Key × V)} {vs : List (Key × Value)} (r : KV kvs vs) : ∀ {i : Nat} {k : Key} {v : Value}, vs[i]? = some (k, v) → ∃ x, kvs[i]? = some (k, x) ∧ RelV x v := by
  unfold KV at r
  induction r with
  | nil => intro i k v e; simp at e
  | @cons p q ps qs h t ih =>
    intro i k v e
    cases i with
    | zero => simp at e; subst e; exact ⟨p.2, congrArg some (Prod.ext h.1 rfl), h.2⟩
    | succ i => simp at e; obtain ⟨x, e1, e2⟩ := ih e; exact ⟨x, by simpa using e1, e2⟩
theorem zip_get {α β : Type} : ∀ {as : List α} {bs : List β} {i : Nat} {p : α × β}, (as.zip bs)[i]? = some p → as[i]? = some p.1 ∧ bs[i]? = some p.2
  | a :: as, b :: bs, 0, p, h => by simp at h; subst h; exact ⟨rfl, rfl⟩
  | a :: as, b :: bs, i + 1, p, h => by simp only [List.zip_cons_cons, List.getElem?_cons_succ] at h ⊢; exact zip_get h
  | [], _, i, p, h => by simp at h
  | _ :: _, [], i, p, h => by simp at h
theorem rcB_dct {f : D → D → Bool} (ne : Bool) (hda : δ[ja]? = some (some (.dct ks ds))) (hdb : δ[jb]? = some (some (.dct ks' es))) (hj : ja ≠ jb)
    (h : ks.length = ks'.length → ∀ (i : Nat) k d e, ks[i]? = some k → ds[i]? = some d → lookK k ks' es = some e → ∀ N γ F, EqB (Y.lock N γ F) n ρ d e ((δ.set ja none).set jb none) (f d e)) :
    RcB Y (n + 1) ρ ne (.al ja) (.al jb) δ (decide (ks.length = ks'.length) && dctB ks' es f ks ds) := by
  refine ⟨fun A' pins s σ γ F H x y u v ar I A ra rb rx ry => ?_⟩
  obtain ⟨a, ga, rfl⟩ := ra
  obtain ⟨b, gb, rfl⟩ := rb
  cases rx
  cases ry
  have hab : b ≠ a := fun z => hj (nd_ix A.s.nd (z ▸ ga) gb)
  obtain ⟨_, ga', ⟨xs, hH, hl, hr⟩, hFa, hNa⟩ := A.s.at hda
  rw [ga] at ga'; cases ga'
  obtain ⟨_, gb', ⟨ys, hHb, hlb, hrb⟩, hFb, hNb⟩ := A.s.at hdb
  rw [gb] at gb'; cases gb'
  obtain ⟨oa, I1⟩ := I.lock hH trivial
  have hHb1 : upd H a (.frz oa (.dK (ks.zip xs))) b = some (.dK (ks'.zip ys)) := by rw [upd_ne hab]; exact hHb
  obtain ⟨ob, I2⟩ := I1.lock hHb1 trivial
  have S1 := A.s.lockD (od := oa) (u := .dK (ks.zip xs)) ga hda
  have hdb1 : (δ.set ja none)[jb]? = some (some (.dct ks' es)) := by rw [List.getElem?_set_ne hj]; exact hdb
  have S2 := S1.lockD (od := ob) (u := .dK (ks'.zip ys)) gb hdb1
  have nfa := I.nofrz hH trivial
  have nfb := I.nofrz hHb trivial
  generalize hN2 : upd (upd Y.N a (.frz oa (.dK (ks.zip xs)))) b (.frz ob (.dK (ks'.zip ys))) = N2 at S2
  have Na : N2 a = some (.frz oa (.dK (ks.zip xs))) := by rw [← hN2, upd_ne (Ne.symm hab), upd_same]
  have Nb : N2 b = some (.frz ob (.dK (ks'.zip ys))) := by rw [← hN2, upd_same]
  -- what the locked comparison leaves
  let LL : Shared → Prop := fun s' => ∃ F' H', L2.Inv Y.X pins σ H' s' ∧ Same F F' ∧ RepS Y.X.K N2 γ F' H' ((δ.set ja none).set jb none)
  have back : ∀ s', LL s' → Left Y pins σ γ F δ s' := fun s' ⟨F', H', I', sm, S'⟩ => by
    have eb := S'.sub2 _ _ Nb
    have I3 := I'.unlock eb nfb
    subst hN2
    have S3 := S'.unlockD (by rw [upd_ne hab]; exact hNb) gb hdb1 hlb (hrb.mono pre_refl sm)
    have ea := S3.sub2 _ _ upd_same
    have I4 := I3.unlock ea nfa
    exact ⟨F', _, I4, sm, S3.unlockD hNa ga hda hl (hr.mono pre_refl sm)⟩
  obtain ⟨sa, gA, xA, esA, epA, vsA, dA, zA, kvA, dictA⟩ := I2.frzK (S2.sub2 _ _ Na)
  obtain ⟨sb, gB, xB, esB, epB, vsB, dB, zB, kvB, dictB⟩ := I2.frzK (S2.sub2 _ _ Nb)
  have lA : vsA.length = ks.length := by rw [← Paired.length kvA, List.length_zip, hr.len]; omega
  have lB : vsB.length = ks'.length := by rw [← Paired.length kvB, List.length_zip, hrb.len]; omega
  refine GQ3.rc_dictB ne dictA.dictOf dictB.dictOf ar.room.units0 fun nm => ?_
  by_cases hlen : ks.length = ks'.length
  · refine GQ3.samePairsB sa sb dictA.dictOf dictB.dictOf gA gB (by omega) (fun i s' => LL s' ∧ dctB ks' es f (ks.take i) (ds.take i) = true) (fun s' => LL s' ∧ dctB ks' es f ks ds = false) (fun i s' q => ?_) (fun i k v s' e q => ?_) ⟨⟨F, _, I2, Same.refl _, S2⟩, by simp [dctB]⟩ (fun s' q => ⟨?_, back _ q.1⟩) (fun s' q => ⟨?_, back _ q.1⟩)
    · obtain ⟨⟨F', H', I', sm, S'⟩, _⟩ := q
      exact ⟨(I'.frzK (S'.sub2 _ _ Na)).2.1, (I'.frzK (S'.sub2 _ _ Nb)).2.1⟩
    · obtain ⟨⟨F', H', I', sm, S'⟩, al⟩ := q
      obtain ⟨x, ex, rx⟩ := kv_get kvA e
      obtain ⟨e1, e2⟩ := zip_get ex
      simp only at e1 e2
      obtain ⟨d, hd, rd⟩ := hr.at e2
      have ro := kvB.val k
      have fd := valV_zip (k := k) hlb hrb
      refine ⟨fun hn => ⟨⟨F', H', I', sm, S'⟩, dctB_get al e1 hd fun e' he' => ?_⟩, fun y hy => ?_⟩
      · rcases fd with ⟨q1, _⟩ | ⟨d', x', q1, q2, _⟩
        · rw [q1] at he'; cases he'
        · rw [q2, hn] at ro; exact ro.elim
      · rcases fd with ⟨_, q2⟩ | ⟨d', x', q1, q2, q3⟩
        · rw [q2, hy] at ro; exact ro.elim
        · rw [q2, hy] at ro
          refine thn ((h hlen i k d d' e1 hd q1 N2 γ F').run A'.in1 pins s' σ γ F' H' x x' v y ar.in1 I' ⟨pre_refl, Same.refl _, S', A.e.mono pre_refl sm⟩ (rd.mono pre_refl sm) (q3.mono pre_refl sm) rx ro) fun r s2 ⟨hr', F2, H2, I2', sm2, S2'⟩ => ?_
          subst hr'
          exact ⟨fun hf => ⟨⟨F2, H2, I2', sm.trans sm2, S2'⟩, dctB_take al e1 hd q1 hf⟩, fun hf => ⟨⟨F2, H2, I2', sm.trans sm2, S2'⟩, dctB_get al e1 hd fun e' he' => by rw [q1] at he'; cases he'; exact hf⟩⟩
    · have al := q.2
      rw [lA, List.take_of_length_le (Nat.le_refl _), List.take_of_length_le (by omega)] at al
      rw [al, decide_eq_true hlen]; cases ne <;> rfl
    · rw [q.2, decide_eq_true hlen]; cases ne <;> rfl
  · have hne : ¬ vsA.length = vsB.length := by omega
    refine PySem.W.keq_samePairs (r := false) sa sb dictA.dictOf dictB.dictOf (fun e => absurd e hne) ⟨?_, back _ ⟨F, _, I2, Same.refl _, S2⟩⟩
    rw [decide_eq_false hlen, Bool.and_false]
    rfl
end
end PV
/-! comparisons int op instance: the instance's own reflected one -/
namespace GR
open PySem PySem.W
section
variable {prog : Program} {w : World} {A : Around} {E : Value → Shared → Prop} {s : Shared} {K : Frag} {x C f dx : Addr} {ox : Obj} {od : Option Obj} {i : Int} {t : Tok}
theorem decl_eq (h : s.heap.get? x = some (instObj C dx)) {Q : Value → Shared → Prop} (q : Q .notImplemented s) : wpAny (model prog w) A (call (.builtin "int.__eq__") [.int i t, .ref x]) Q E s := by
  refine GQ.call_here F.slot_int_eq (typeIs_int s i t) F.entry_int_eq (F.args_int_eq_2 _ _) ?_
  obtain ⟨hp, g, d, tk, os⟩ := s
  unfold instObj at h
  wp_walk using AutoSeq1.wpAny_loadPart' h
  exact q
theorem decl_ne (h : s.heap.get? x = some (instObj C dx)) {Q : Value → Shared → Prop} (q : Q .notImplemented s) : wpAny (model prog w) A (call (.builtin "int.__ne__") [.int i t, .ref x]) Q E s := by
  refine GQ.call_here F.slot_int_ne (typeIs_int s i t) F.entry_int_ne (F.args_int_ne_2 _ _) ?_
  obtain ⟨hp, g, d, tk, os⟩ := s
  unfold instObj at h
  wp_walk using AutoSeq1.wpAny_loadPart' h
  exact q
theorem decl_lt (h : s.heap.get? x = some (instObj C dx)) {Q : Value → Shared → Prop} (q : Q .notImplemented s) : wpAny (model prog w) A (call (.builtin "int.__lt__") [.int i t, .ref x]) Q E s := by
  refine GQ.call_here F.slot_int_lt (typeIs_int s i t) F.entry_int_lt (F.args_int_lt_2 _ _) ?_
  obtain ⟨hp, g, d, tk, os⟩ := s
  unfold instObj at h
  wp_walk using AutoSeq1.wpAny_loadPart' h
  exact q
theorem decl_le (h : s.heap.get? x = some (instObj C dx)) {Q : Value → Shared → Prop} (q : Q .notImplemented s) : wpAny (model prog w) A (call (.builtin "int.__le__") [.int i t, .ref x]) Q E s := by
  refine GQ.call_here F.slot_int_le (typeIs_int s i t) F.entry_int_le (F.args_int_le_2 _ _) ?_
  obtain ⟨hp, g, d, tk, os⟩ := s
  unfold instObj at h
  wp_walk using AutoSeq1.wpAny_loadPart' h
  exact q
theorem decl_gt (h : s.heap.get? x = some (instObj C dx)) {Q : Value → Shared → Prop} (q : Q .notImplemented s) : wpAny (model prog w) A (call (.builtin "int.__gt__") [.int i t, .ref x]) Q E s := by
  refine GQ.call_here F.slot_int_gt (typeIs_int s i t) F.entry_int_gt (F.args_int_gt_2 _ _) ?_
  obtain ⟨hp, g, d, tk, os⟩ := s
  unfold instObj at h
  wp_walk using AutoSeq1.wpAny_loadPart' h
  exact q
theorem decl_ge (h : s.heap.get? x = some (instObj C dx)) {Q : Value → Shared → Prop} (q : Q .notImplemented s) : wpAny (model prog w) A (call (.builtin "int.__ge__") [.int i t, .ref x]) Q E s := by
  refine GQ.call_here F.slot_int_ge (typeIs_int s i t) F.entry_int_ge (F.args_int_ge_2 _ _) ?_
  obtain ⟨hp, g, d, tk, os⟩ := s
  unfold instObj at h
  wp_walk using AutoSeq1.wpAny_loadPart' h
  exact q
/-- int op instance, by a way in which the instance's own is tried -/
theorem cmp_R {op : CmpOp} {id : String} {Q : Value → Shared → Prop} (hu : A.units < cLine) (X : K.In s.heap) (I : InstAt s.heap x ox C od) (hsub : subIn K (.ref C) (.type "int") = some false) (hslot : Slot "int" (cmpInfo op).2.1 id)
    (hd : ∀ Q' : Value → Shared → Prop, Q' .notImplemented s → wpAny (model prog w) A (call (.builtin id) [.int i t, .ref x]) Q' E s)
    (one : wpAny (model prog w) A (tryCompare (.ref x) (cmpInfo op).2.2 (.int i t)) (fun r s' => ∃ v, r = some v ∧ Q v s') E s) : wpAny (model prog w) A (richCompare op (.int i t) (.ref x)) Q E s := by
  unfold richCompare
  simp only [(typeIs_int s i t).oneThing_none]
  refine wpAny_holding (wpAny_bind (wpAny_cRoomFor hu ?_))
  refine wpAny_bind (wpAny_typeOf (typeIs_int s i t) (wpAny_bind (I.type.here ?_)))
  have hne : (Value.type "int" != Value.ref C) = true := rfl
  simp only [hne, if_true]
  refine wpAny_bind ((looks_subIn X hsub).here ?_)
  simp only [Bool.false_eq_true, if_false, Bool.not_false, if_true]
  refine wpAny_bind (m := tryCompare (.int i t) _ (.ref x)) (wpAny_tryCompare_declines (typeIs_int s i t) hslot (hd _ ⟨rfl, ?_⟩))
  refine wpAny_bind (wpAny_mono one (fun r s' z => ?_) fun _ _ e => e)
  obtain ⟨v, rfl, hq⟩ := z
  exact wpAny_pure hq
theorem one_K {nm : Str} {Q : Value → Shared → Prop} {b : Value} (X : K.In s.heap) (I : InstAt s.heap x ox C od) (hs : findIn K (.ref C) nm = some (some (.ref f))) (hf : isFn K (.ref f) = true)
    (h : wpAny (model prog w) A (call (.ref f) [.ref x, b]) (CmpBack Q) E s) : wpAny (model prog w) A (tryCompare (.ref x) nm b) (fun r s' => ∃ v, r = some v ∧ Q v s') E s := by
  unfold tryCompare
  refine wpAny_bind (ifBound_K X I hs hf (wpAny_mono h (fun v s' hv => ?_) fun _ _ e => e))
  cases v <;> first | exact hv.elim | exact wpAny_pure ⟨_, rfl, hv⟩
end
end GR
namespace PV
open PySem PySem.Spec PyProof.Rows L2
section
variable {Y : PX} {ρ : En} {δ : Sto} {σ : L2.St} {γ γ' : List Addr} {F F' H H' N : Hp} {Q : D → Sto → Prop} {k n : Nat} {f C : Addr} {fd : FuncData} {ps : List Str} {S : DSp} {dds : List D} {da db : D} {ns : List Str} {ds : List D} {i : Int}
theorem ins_atO {pins : List (Addr × Obj)} {s : Shared} {x : V} (I : L2.Inv Y.X pins σ H s) (A : At Y γ F H δ σ ρ) (r : RT Y.X.K γ F da x) (hda : res δ da = .ins C ns ds) : ∃ a od ox dx, x = .ref a ∧ PySem.W.InstAt s.heap a ox C od ∧ s.heap.get? a = some (PySem.W.instObj C dx) := by
  obtain ⟨a, dx, xs, rfl, h1, _⟩ := res_ins A.s r hda
  obtain ⟨mA, J, _⟩ := ins_get I.hok h1
  have e := J.obj
  obtain ⟨od, J, _⟩ := J.look
  exact ⟨a, _, _, dx, rfl, J, e⟩
/-- int == instance, within a built-in -/
theorem rcB_insR {b : Bool} (g : MtD Y.X.prog Y.X.w Y.X.K Y.X.mg Y.X.base k C "__eq__" ps [] S) (hsub : PySem.W.subIn Y.X.K (.ref C) (.type "int") = some false) (hda : res δ da = .ins C ns ds)
    (h : S [da, .int i] δ (fun r δ' => r = .bl b ∧ δ' = δ) fun _ _ _ => False) (hS : ∀ R T T', (∀ C g δ', T C g δ' → T' C g δ') → S [da, .int i] δ R T → S [da, .int i] δ R T') : RcB Y (k + 1) ρ false (.int i) da δ b := by
  refine ⟨fun A' pins s σ γ F H x y u v ar I A rb ra ry rx => ?_⟩
  obtain ⟨f, fd, ds', dvs, hm, G, hb, hd, hR⟩ := g.ex
  obtain ⟨a, od, ox, dx, rfl, J, Jo⟩ := ins_atO I A ra hda
  cases rx
  cases rb.int
  obtain ⟨t, rfl⟩ := ry
  have h' := hS _ _ (fun C g δ' => Y.T C g ρ δ') (fun _ _ _ z => z.elim) h
  refine GR.cmp_R (op := .Eq) ar.room.units0 I.kIn J hsub PySem.F.slot_int_eq (fun Q' q => GR.decl_eq Jo q) (GR.one_K I.kIn J hm.at_ hm.fn (thn (call_at (as := [da, .int i]) G (ar.mono (by omega)) hb hd hR I A (RTs.cons ra (RTs.cons rb RTs.nil)) (.cons rfl (.cons ⟨t, rfl⟩ .nil)) (by simpa using h')) fun u s' z => ?_))
  obtain ⟨x, H', F', d, I', rx, sm, S', r, hd'⟩ := left_of A z
  subst hd'
  cases r.bl
  cases rx
  exact ⟨by simp, F', H', I', sm, S'⟩
theorem eqB_insR {b : Bool} (g : MtD Y.X.prog Y.X.w Y.X.K Y.X.mg Y.X.base k C "__eq__" ps [] S) (hsub : PySem.W.subIn Y.X.K (.ref C) (.type "int") = some false) (hda : res δ da = .ins C ns ds)
    (h : S [da, .int i] δ (fun r δ' => r = .bl b ∧ δ' = δ) fun _ _ _ => False) (hS : ∀ R T T', (∀ C g δ', T C g δ' → T' C g δ') → S [da, .int i] δ R T → S [da, .int i] δ R T') (hna : da.isAl = false) : EqB Y (k + 1) ρ (.int i) da δ b := by
  have rr := rcB_insR (ρ := ρ) g hsub hda h hS
  refine ⟨fun A' pins s σ γ F H x y u v ar I A rb ra ry rx => ?_, fun γ F v rb ra => ?_⟩
  · have z := rr.run A' pins s σ γ F H x y u v ar I A rb ra ry rx
    obtain ⟨a, dx, xs, rfl, h1, _⟩ := res_ins A.s ra hda
    cases rb.int
    obtain ⟨t, rfl⟩ := ry
    obtain rfl : v = Value.ref a := rx
    unfold eqBool
    refine wpAny_holding ?_
    refine wpAny_ite_split (fun hab => ?_) (fun _ => ?_)
    · exact absurd (hab.symm.trans (show (Value.int i t == Value.ref a) = false from rfl)) (by decide)
    · refine wpAny_bind (wpAny_mono z (fun r s' hv => ?_) fun _ _ x => x)
      obtain ⟨e, l⟩ := hv
      subst e
      exact wpAny_truthy_bool ⟨by simp, l⟩
  · cases da with
    | al j => cases hna
    | ins C' ns' ds' =>
      have ra' : Rep _ _ _ _ := ra
      rw [Rep] at ra'
      obtain ⟨a, dx, xs, rfl, _⟩ := ra'
      cases rb.int
    | _ => cases hda
end
end PV
namespace PV
open PySem PySem.Spec PyProof.Rows L2
section
variable {Y : PX} {ρ : En} {δ : Sto} {Q : D → Sto → Prop} {C D' : Addr}
/-- isinstance(e, D'), e the error that the suite holds -/
theorem c_isE {ad : Addr} {g : D} {Z : PX} {b : Bool} (c : Caught Y ad C g Z) (E : ExcC Y.X.K C) (hk : PySem.W.kitOne Y.X.K (.ref C) (.ref D') = some b) (q : Q (.bl b) δ) : CallD Z ρ (.builtin "isinstance") [.gl ad, .gl D'] δ Q := by
  obtain ⟨oe, pn, γ0, F0, cls, d, rfl, hz, hv, ec, dd, v, ed, hd, rv⟩ := c.zx
  refine .mk fun pins s σ γ F H xs us I A r rx => ?_
  obtain ⟨x, y, rfl, r1, r2⟩ := r.two
  cases r1.gl
  cases r2.gl
  cases rx with
  | cons rx rr =>
    cases rr with
    | cons rt rr =>
      cases rr
      cases rx
      cases rt
      obtain ⟨hget, _⟩ := I.pin (ad, oe) (List.mem_append.mpr (.inl List.mem_cons_self))
      obtain ⟨vs, hv⟩ := hv
      have hH : H dd = some (.xd [("given", v)]) := A.s.sub _ _ (A.f _ _ hd)
      obtain ⟨_, ⟨od, _, _, he, _⟩, _⟩ := I.hok dd _ hH
      have J : PySem.W.InstAt s.heap ad oe C (some od) := by
        obtain ⟨oc, od', oda, osl⟩ := oe
        obtain ⟨h1, h2⟩ := hz
        dsimp only at h1 h2 hv
        subst h1 h2 hv ec ed
        exact ⟨hget, rfl, rfl, he⟩
      have hcl : (PySem.W.clsIn Y.X.K C).isSome = true := by obtain ⟨cd, hc, _⟩ := PySem.W.any_some E.hd; rw [hc]; rfl
      exact PySem.W.kia_one (PySem.W.kitx_exc hcl E.hg E.hk E.hs E.ha E.hn E.ht E.hm) I.kIn J hk (fun z => nomatch z) fun tk => ⟨.bl b, H, I.kept (t' := tk) fun _ _ z => z, rfl, Out.here A.s rt_bl q⟩
theorem cmp_eqN (q : Q (.bl true) δ) : CmpD Y ρ .Eq .non .non δ Q := cmp_of op_eq fun σ γ F H x y A ra rb => by
  cases ra.non; cases rb.non; exact ⟨rfl, Out.here A.s rt_bl (by simpa using q)⟩
end
end PV
namespace K53
open PySem PySem.Spec PyProof.Rows L2 PV
def top (i : Nat) : Stmt := PySem.Challenge.pw_wishedwires_k53_prices_set.main.body.getD i (.Pass ⟨0, 0, 0, 0⟩)
abbrev s_InvalidNumber_init : Stmt := inClass (top 3) 0
abbrev n_InvalidNumber_init : List Str := ["self", "given"]
theorem sc_InvalidNumber_init : FnScope n_InvalidNumber_init ["self", "given"] (defScope s_InvalidNumber_init) := ⟨rfl, rfl, rfl, by decide +kernel, rfl, by decide +kernel, by decide +kernel⟩
abbrev s_InvalidPrices_init : Stmt := inClass (top 4) 0
abbrev n_InvalidPrices_init : List Str := ["self", "given"]
theorem sc_InvalidPrices_init : FnScope n_InvalidPrices_init ["self", "given"] (defScope s_InvalidPrices_init) := ⟨rfl, rfl, rfl, by decide +kernel, rfl, by decide +kernel, by decide +kernel⟩
abbrev s_NoDivision_init : Stmt := inClass (top 5) 0
abbrev n_NoDivision_init : List Str := ["self", "given"]
theorem sc_NoDivision_init : FnScope n_NoDivision_init ["self", "given"] (defScope s_NoDivision_init) := ⟨rfl, rfl, rfl, by decide +kernel, rfl, by decide +kernel, by decide +kernel⟩
abbrev s_is_integer : Stmt := top 7
abbrev n_is_integer : List Str := ["thing"]
theorem sc_is_integer : FnScope n_is_integer ["thing"] (defScope s_is_integer) := ⟨rfl, rfl, rfl, by decide +kernel, rfl, by decide +kernel, by decide +kernel⟩
abbrev s_greatest_divisor : Stmt := top 9
abbrev n_greatest_divisor : List Str := ["one", "other", "left", "right"]
theorem sc_greatest_divisor : FnScope n_greatest_divisor ["one", "other"] (defScope s_greatest_divisor) := ⟨rfl, rfl, rfl, by decide +kernel, rfl, by decide +kernel, by decide +kernel⟩
abbrev s_Ratio_init : Stmt := inClass (top 10) 0
abbrev n_Ratio_init : List Str := ["self", "top", "bottom", "by", "sign"]
theorem sc_Ratio_init : FnScope n_Ratio_init ["self", "top", "bottom"] (defScope s_Ratio_init) := ⟨rfl, rfl, rfl, by decide +kernel, rfl, by decide +kernel, by decide +kernel⟩
abbrev s_Ratio_add : Stmt := inClass (top 10) 2
abbrev n_Ratio_add : List Str := ["self", "other", "more"]
theorem sc_Ratio_add : FnScope n_Ratio_add ["self", "other"] (defScope s_Ratio_add) := ⟨rfl, rfl, rfl, by decide +kernel, rfl, by decide +kernel, by decide +kernel⟩
abbrev s_Ratio_radd : Stmt := inClass (top 10) 3
abbrev n_Ratio_radd : List Str := ["self", "other"]
theorem sc_Ratio_radd : FnScope n_Ratio_radd ["self", "other"] (defScope s_Ratio_radd) := ⟨rfl, rfl, rfl, by decide +kernel, rfl, by decide +kernel, by decide +kernel⟩
abbrev s_Ratio_neg : Stmt := inClass (top 10) 4
abbrev n_Ratio_neg : List Str := ["self"]
theorem sc_Ratio_neg : FnScope n_Ratio_neg ["self"] (defScope s_Ratio_neg) := ⟨rfl, rfl, rfl, by decide +kernel, rfl, by decide +kernel, by decide +kernel⟩
abbrev s_Ratio_sub : Stmt := inClass (top 10) 5
abbrev n_Ratio_sub : List Str := ["self", "other", "less"]
theorem sc_Ratio_sub : FnScope n_Ratio_sub ["self", "other"] (defScope s_Ratio_sub) := ⟨rfl, rfl, rfl, by decide +kernel, rfl, by decide +kernel, by decide +kernel⟩
abbrev s_Ratio_rsub : Stmt := inClass (top 10) 6
abbrev n_Ratio_rsub : List Str := ["self", "other"]
theorem sc_Ratio_rsub : FnScope n_Ratio_rsub ["self", "other"] (defScope s_Ratio_rsub) := ⟨rfl, rfl, rfl, by decide +kernel, rfl, by decide +kernel, by decide +kernel⟩
abbrev s_Ratio_mul : Stmt := inClass (top 10) 7
abbrev n_Ratio_mul : List Str := ["self", "other", "more"]
theorem sc_Ratio_mul : FnScope n_Ratio_mul ["self", "other"] (defScope s_Ratio_mul) := ⟨rfl, rfl, rfl, by decide +kernel, rfl, by decide +kernel, by decide +kernel⟩
abbrev s_Ratio_rmul : Stmt := inClass (top 10) 8
abbrev n_Ratio_rmul : List Str := ["self", "other"]
theorem sc_Ratio_rmul : FnScope n_Ratio_rmul ["self", "other"] (defScope s_Ratio_rmul) := ⟨rfl, rfl, rfl, by decide +kernel, rfl, by decide +kernel, by decide +kernel⟩
abbrev s_Ratio_eq : Stmt := inClass (top 10) 10
abbrev n_Ratio_eq : List Str := ["self", "other"]
theorem sc_Ratio_eq : FnScope n_Ratio_eq ["self", "other"] (defScope s_Ratio_eq) := ⟨rfl, rfl, rfl, by decide +kernel, rfl, by decide +kernel, by decide +kernel⟩
abbrev s_Ratio_lt : Stmt := inClass (top 10) 11
abbrev n_Ratio_lt : List Str := ["self", "other", "more"]
theorem sc_Ratio_lt : FnScope n_Ratio_lt ["self", "other"] (defScope s_Ratio_lt) := ⟨rfl, rfl, rfl, by decide +kernel, rfl, by decide +kernel, by decide +kernel⟩
abbrev s_Ratio_le : Stmt := inClass (top 10) 12
abbrev n_Ratio_le : List Str := ["self", "other", "more"]
theorem sc_Ratio_le : FnScope n_Ratio_le ["self", "other"] (defScope s_Ratio_le) := ⟨rfl, rfl, rfl, by decide +kernel, rfl, by decide +kernel, by decide +kernel⟩
abbrev s_Ratio_gt : Stmt := inClass (top 10) 13
abbrev n_Ratio_gt : List Str := ["self", "other", "less"]
theorem sc_Ratio_gt : FnScope n_Ratio_gt ["self", "other"] (defScope s_Ratio_gt) := ⟨rfl, rfl, rfl, by decide +kernel, rfl, by decide +kernel, by decide +kernel⟩
abbrev s_Ratio_ge : Stmt := inClass (top 10) 14
abbrev n_Ratio_ge : List Str := ["self", "other", "less"]
theorem sc_Ratio_ge : FnScope n_Ratio_ge ["self", "other"] (defScope s_Ratio_ge) := ⟨rfl, rfl, rfl, by decide +kernel, rfl, by decide +kernel, by decide +kernel⟩
abbrev s_Ratio_bool : Stmt := inClass (top 10) 15
abbrev n_Ratio_bool : List Str := ["self"]
theorem sc_Ratio_bool : FnScope n_Ratio_bool ["self"] (defScope s_Ratio_bool) := ⟨rfl, rfl, rfl, by decide +kernel, rfl, by decide +kernel, by decide +kernel⟩
abbrev s_Ratio_abs : Stmt := inClass (top 10) 16
abbrev n_Ratio_abs : List Str := ["self"]
theorem sc_Ratio_abs : FnScope n_Ratio_abs ["self"] (defScope s_Ratio_abs) := ⟨rfl, rfl, rfl, by decide +kernel, rfl, by decide +kernel, by decide +kernel⟩
abbrev s_Ratio_str : Stmt := inClass (top 10) 17
abbrev n_Ratio_str : List Str := ["self"]
theorem sc_Ratio_str : FnScope n_Ratio_str ["self"] (defScope s_Ratio_str) := ⟨rfl, rfl, rfl, by decide +kernel, rfl, by decide +kernel, by decide +kernel⟩
abbrev s_Ratio_repr : Stmt := inClass (top 10) 18
abbrev n_Ratio_repr : List Str := ["self"]
theorem sc_Ratio_repr : FnScope n_Ratio_repr ["self"] (defScope s_Ratio_repr) := ⟨rfl, rfl, rfl, by decide +kernel, rfl, by decide +kernel, by decide +kernel⟩
abbrev s_as_ratio : Stmt := top 11
abbrev n_as_ratio : List Str := ["thing"]
theorem sc_as_ratio : FnScope n_as_ratio ["thing"] (defScope s_as_ratio) := ⟨rfl, rfl, rfl, by decide +kernel, rfl, by decide +kernel, by decide +kernel⟩
abbrev s_as_price : Stmt := top 13
abbrev n_as_price : List Str := ["name", "thing"]
theorem sc_as_price : FnScope n_as_price ["name", "thing"] (defScope s_as_price) := ⟨rfl, rfl, rfl, by decide +kernel, rfl, by decide +kernel, by decide +kernel⟩
abbrev s_Prices_init : Stmt := inClass (top 14) 0
abbrev n_Prices_init : List Str := ["self", "lost", "surplus", "value", "junction", "name", "price"]
theorem sc_Prices_init : FnScope n_Prices_init ["self", "lost", "surplus", "value", "junction"] (defScope s_Prices_init) := ⟨rfl, rfl, rfl, by decide +kernel, rfl, by decide +kernel, by decide +kernel⟩
abbrev s_Prices_lost : Stmt := inClass (top 14) 1
abbrev n_Prices_lost : List Str := ["self"]
theorem sc_Prices_lost : FnScope n_Prices_lost ["self"] (defScope s_Prices_lost) := ⟨rfl, rfl, rfl, by decide +kernel, rfl, by decide +kernel, by decide +kernel⟩
abbrev s_Prices_lost2 : Stmt := inClass (top 14) 2
abbrev n_Prices_lost2 : List Str := ["self", "price"]
theorem sc_Prices_lost2 : FnScope n_Prices_lost2 ["self", "price"] (defScope s_Prices_lost2) := ⟨rfl, rfl, rfl, by decide +kernel, rfl, by decide +kernel, by decide +kernel⟩
abbrev s_Prices_surplus : Stmt := inClass (top 14) 3
abbrev n_Prices_surplus : List Str := ["self"]
theorem sc_Prices_surplus : FnScope n_Prices_surplus ["self"] (defScope s_Prices_surplus) := ⟨rfl, rfl, rfl, by decide +kernel, rfl, by decide +kernel, by decide +kernel⟩
abbrev s_Prices_surplus2 : Stmt := inClass (top 14) 4
abbrev n_Prices_surplus2 : List Str := ["self", "price"]
theorem sc_Prices_surplus2 : FnScope n_Prices_surplus2 ["self", "price"] (defScope s_Prices_surplus2) := ⟨rfl, rfl, rfl, by decide +kernel, rfl, by decide +kernel, by decide +kernel⟩
abbrev s_Prices_value : Stmt := inClass (top 14) 5
abbrev n_Prices_value : List Str := ["self"]
theorem sc_Prices_value : FnScope n_Prices_value ["self"] (defScope s_Prices_value) := ⟨rfl, rfl, rfl, by decide +kernel, rfl, by decide +kernel, by decide +kernel⟩
abbrev s_Prices_value2 : Stmt := inClass (top 14) 6
abbrev n_Prices_value2 : List Str := ["self", "price"]
theorem sc_Prices_value2 : FnScope n_Prices_value2 ["self", "price"] (defScope s_Prices_value2) := ⟨rfl, rfl, rfl, by decide +kernel, rfl, by decide +kernel, by decide +kernel⟩
abbrev s_Prices_junction : Stmt := inClass (top 14) 7
abbrev n_Prices_junction : List Str := ["self"]
theorem sc_Prices_junction : FnScope n_Prices_junction ["self"] (defScope s_Prices_junction) := ⟨rfl, rfl, rfl, by decide +kernel, rfl, by decide +kernel, by decide +kernel⟩
abbrev s_Prices_junction2 : Stmt := inClass (top 14) 8
abbrev n_Prices_junction2 : List Str := ["self", "price"]
theorem sc_Prices_junction2 : FnScope n_Prices_junction2 ["self", "price"] (defScope s_Prices_junction2) := ⟨rfl, rfl, rfl, by decide +kernel, rfl, by decide +kernel, by decide +kernel⟩
abbrev s_Prices_change : Stmt := inClass (top 14) 9
abbrev n_Prices_change : List Str := ["self", "name", "price"]
theorem sc_Prices_change : FnScope n_Prices_change ["self", "name", "price"] (defScope s_Prices_change) := ⟨rfl, rfl, rfl, by decide +kernel, rfl, by decide +kernel, by decide +kernel⟩
abbrev s_Prices_copied : Stmt := inClass (top 14) 10
abbrev n_Prices_copied : List Str := ["self"]
theorem sc_Prices_copied : FnScope n_Prices_copied ["self"] (defScope s_Prices_copied) := ⟨rfl, rfl, rfl, by decide +kernel, rfl, by decide +kernel, by decide +kernel⟩
abbrev s_Prices_eq : Stmt := inClass (top 14) 11
abbrev n_Prices_eq : List Str := ["self", "other"]
theorem sc_Prices_eq : FnScope n_Prices_eq ["self", "other"] (defScope s_Prices_eq) := ⟨rfl, rfl, rfl, by decide +kernel, rfl, by decide +kernel, by decide +kernel⟩
abbrev s__law_start : Stmt := top 16
abbrev n__law_start : List Str := ["_law_script"]
theorem sc__law_start : FnScope n__law_start ["_law_script"] (defScope s__law_start) := ⟨rfl, rfl, rfl, by decide +kernel, rfl, by decide +kernel, by decide +kernel⟩
abbrev s__law_draw : Stmt := top 17
abbrev n__law_draw : List Str := ["_law_state", "_law_many", "_law_digit", "_law_cell"]
theorem sc__law_draw : FnScope n__law_draw ["_law_state", "_law_many"] (defScope s__law_draw) := ⟨rfl, rfl, rfl, by decide +kernel, rfl, by decide +kernel, by decide +kernel⟩
abbrev s__law_price : Stmt := top 18
abbrev n__law_price : List Str := ["_law_state", "_law_top"]
theorem sc__law_price : FnScope n__law_price ["_law_state"] (defScope s__law_price) := ⟨rfl, rfl, rfl, by decide +kernel, rfl, by decide +kernel, by decide +kernel⟩
abbrev s__law_odd : Stmt := top 19
abbrev n__law_odd : List Str := ["_law_state", "_law_bottom"]
theorem sc__law_odd : FnScope n__law_odd ["_law_state"] (defScope s__law_odd) := ⟨rfl, rfl, rfl, by decide +kernel, rfl, by decide +kernel, by decide +kernel⟩
abbrev s__law_told : Stmt := top 20
abbrev n__law_told : List Str := ["_law_prices"]
theorem sc__law_told : FnScope n__law_told ["_law_prices"] (defScope s__law_told) := ⟨rfl, rfl, rfl, by decide +kernel, rfl, by decide +kernel, by decide +kernel⟩
abbrev s__law_unchanged : Stmt := top 21
abbrev n__law_unchanged : List Str := ["_law_prices", "_law_name", "_law_thing", "e"]
theorem sc__law_unchanged : FnScope n__law_unchanged ["_law_prices", "_law_name", "_law_thing"] (defScope s__law_unchanged) := ⟨rfl, rfl, rfl, by decide +kernel, rfl, by decide +kernel, by decide +kernel⟩
abbrev s__law_unmade : Stmt := top 22
abbrev n__law_unmade : List Str := ["_law_some", "e"]
theorem sc__law_unmade : FnScope n__law_unmade ["_law_some"] (defScope s__law_unmade) := ⟨rfl, rfl, rfl, by decide +kernel, rfl, by decide +kernel, by decide +kernel⟩
abbrev s_law : Stmt := top 23
abbrev n_law : List Str := ["_law_script", "_law_state", "_law_words", "_law_some", "_law_word", "_law_prices", "_law_price_here", "_law_like", "_law_first", "_law_k", "_law_at", "_law_odd_here", "_law_low", "_law_bad"]
theorem sc_law : FnScope n_law ["_law_script"] (defScope s_law) := ⟨rfl, rfl, rfl, by decide +kernel, rfl, by decide +kernel, by decide +kernel⟩
structure Blt (mg : Str → Option Value) : Prop where
  staticmethod_ : mg "staticmethod" = none
  property_ : mg "property" = none
  list_ : mg "list" = none
  range_ : mg "range" = none
  isinstance_ : mg "isinstance" = none
  int_ : mg "int" = none
  abs_ : mg "abs" = none
  bool_ : mg "bool" = none
  len_ : mg "len" = none
  all_ : mg "all" = none
  str_ : mg "str" = none
end K53
namespace K53
open PySem PySem.Spec PyProof.Rows L2 PV
local macro_rules | `(tactic| walk_at "w") => `(tactic| first
  | refine we_int ?_ | refine we_str ?_ | refine we_bl ?_ | refine we_non ?_
  | refine we_name rfl rfl ?_
  | refine wss_one ?_ | refine wss_cons ?_ | refine wss_nil ?_
  | refine ws_par rfl (by assumption) rfl rfl ?_ | refine ws_let (by assumption) rfl ?_ | refine ws_ret ?_ | refine ws_retN ?_ | refine ws_if ?_ | refine ws_pass ?_
  | refine wa_cons ?_ | refine wa_nil ?_
  | refine we_bin ?_ | refine wt_cmp ?_ | refine we_cmp ?_ | refine wt_not ?_ | refine we_not ?_ | refine wt_bool ?_ | refine we_un ?_
  | refine ww_and1 ?_ | refine ww_or1 ?_ | refine ww_and ?_ | refine ww_or ?_ | refine we_one ?_ | refine we_and ?_ | refine we_or ?_ | refine we_ifExp ?_
  | refine we_abs (by assumption) ?_ | refine we_len (by assumption) ?_ | refine we_isinstance (by assumption) ?_ | refine we_all (by assumption) ?_ | refine we_intT (by assumption) ?_ | refine we_boolT (by assumption) ?_ | refine we_strT (by assumption) ?_ | refine we_listT (by assumption) ?_ | refine we_tupleT (by assumption) ?_
  | refine we_intV (by assumption) ?_ | refine we_boolV (by assumption) ?_ | refine we_strV (by assumption) ?_ | refine we_listV (by assumption) ?_ | refine we_tupleV (by assumption) ?_ | refine we_dictV (by assumption) ?_
  | refine c_abs ?_ | refine c_int ?_ | refine c_intB ?_ | refine c_boolI ?_
  | refine bin_add ?_ | refine bin_sub ?_ | refine un_negD ?_ | refine bin_mod (by omega) ?_
  | refine cmp_lt ?_ | refine cmp_le ?_ | refine cmp_gt ?_ | refine cmp_ge ?_ | refine cmp_eqI ?_ | refine cmp_neI ?_ | refine cmp_eqS ?_ | refine cmp_neS ?_ | refine cmp_eqB ?_ | refine cmp_neB ?_ | refine cmp_isN ?_ | refine cmp_notN ?_
  | refine tru_bl ?_ | refine tru_int ?_ | refine tru_non ?_
  | refine c_isB rfl (by decide) ?_
  | refine we_fld (by assumption) ?_ | refine ⟨_, _, _, rfl, rfl, ?_⟩
  | refine we_fn (by assumption) (by first | assumption | exact Room.mono (by assumption) (by decide)) ?_ | refine we_nw (by assumption) (by first | assumption | exact Room.mono (by assumption) (by decide)) ?_
  | refine wt_val ?_
  | refine ⟨_, rfl, ?_⟩ | refine ⟨_, _, rfl, ?_⟩
  | walk_at "sp"
  | refine ⟨fun _ => ?_, fun z => absurd z (by decide)⟩ | refine ⟨fun z => absurd z (by decide), fun _ => ?_⟩
  )
local macro_rules | `(tactic| walk_at "ww") => `(tactic| repeat (walk_at "w"))
/-- a ratio -/
abbrev rat (C : Addr) (a b : Int) : D := .ins C ["top", "bottom"] [.int a, .int b]
def sgn (q : Int) : Int := if q < 0 then -1 else 1
def lowT (p q : Int) : Int := sgn q * (p / (Int.gcd p q : Int))
def lowB (p q : Int) : Int := sgn q * (q / (Int.gcd p q : Int))
abbrev rlow (C : Addr) (p q : Int) : D := rat C (lowT p q) (lowB p q)
/-- what the text says of the class Ratio -/
structure RatT (K : PySem.W.Frag) (mg : Str → Option Value) (C : Addr) : Prop where
  mgC : mg "Ratio" = some (.ref C)
  ins : InsT K C
  fT : Fld K C "top"
  fB : Fld K C "bottom"
  kInt : PySem.W.kitOne K (.ref C) (.type "int") = some false
  kOwn : PySem.W.kitOne K (.ref C) (.ref C) = some true
  kI : PySem.W.kitOne K (.type "int") (.ref C) = some false
  kB : PySem.W.kitOne K (.type "bool") (.ref C) = some false
  kS : PySem.W.kitOne K (.type "str") (.ref C) = some false
  kN : PySem.W.kitOne K (.type "NoneType") (.ref C) = some false
  first : PySem.W.selfFirst K C = true
  nfI : PySem.W.notFirst K C (.type "int") = true
  nfC : PySem.W.notFirst K C (.ref C) = true
  eqT : EqT K C
section
variable {P : Program} {w : World} {K : PySem.W.Frag} {mg : Str → Option Value} {base : Heap} {f C : Addr} {fd : FuncData}
inductive SpGcd : DSp
  | mk {δ : Sto} {R : RK} {T : XD} {i j : Int} (h : R (.int (Int.gcd i j : Nat)) δ) : SpGcd [.int i, .int j] δ R T
theorem ok_gcd (F : Fun K "greatest_divisor" "greatest_divisor" s_greatest_divisor f fd) (B : Blt mg) : FnOk P w K mg base (L2.CX P w) 1 f fd ["one", "other"] (spOf K SpGcd) := by
  refine fun_ok F sc_greatest_divisor (fun ds δ R T h => by cases h; rfl) ?_
  rintro cdv A outer s H E Nf γ Fz T tk po ds δ R T0 hT hr hsc h
  obtain @⟨_, _, _, i, j, k⟩ := h
  have nd := sc_greatest_divisor.nd
  have b1 := B.abs_
  walk_at "ww"
  refine ws_while (fun m ρ' δ' => ∃ a b : Nat, ρ' = [some (.int i), some (.int j), some (.int a), some (.int b)] ∧ δ' = δ ∧ Nat.gcd a b = Int.gcd i j ∧ m = b) ⟨_, i.natAbs, j.natAbs, rfl, rfl, rfl, rfl⟩ ?_
  rintro m _ _ ⟨a, b, rfl, rfl, hg, rfl⟩
  walk_at "ww"
  refine ⟨fun hb => ?_, fun hb => ?_⟩
  · have hb : m ≠ 0 := by simpa using hb
    walk_at "ww"
    refine ⟨a % m, Nat.mod_lt _ (by omega), m, a % m, by simp, rfl, ?_, rfl⟩
    rw [← hg, Nat.gcd_comm m, ← Nat.gcd_rec, Nat.gcd_comm]
  · have hb : m = 0 := by simpa using hb
    subst hb
    walk_at "ww"
    rw [Nat.gcd_zero_right] at hg
    rw [hg]
    exact harv hsc k
/-- is_integer: of anything -/
inductive SpIsInt (K : PySem.W.Frag) : DSp
  | int {δ : Sto} {R : RK} {T : XD} {i : Int} (h : R (.bl true) δ) : SpIsInt K [.int i] δ R T
  | bl {δ : Sto} {R : RK} {T : XD} {i : Bool} (h : R (.bl false) δ) : SpIsInt K [.bl i] δ R T
  | no {δ : Sto} {R : RK} {T : XD} {d : D} {t : Value} (ty : TyD K δ d t) (hk : PySem.W.kitOne K t (.type "int") = some false) (h : R (.bl false) δ) : SpIsInt K [d] δ R T
theorem ok_isInt (F : Fun K "is_integer" "is_integer" s_is_integer f fd) (B : Blt mg) : FnOk P w K mg base (L2.CX P w) 1 f fd ["thing"] (spOf K (SpIsInt K)) := by
  refine fun_ok F sc_is_integer (fun ds δ R T h => by cases h <;> rfl) ?_
  rintro cdv A outer s H E Nf γ Fz T tk po ds δ R T0 hT hr hsc h
  have b1 := B.isinstance_
  have b2 := B.int_
  have b3 := B.bool_
  rcases h with k | k | ⟨ty, hk, k⟩
  · walk_at "ww"
    exact harv hsc k
  · walk_at "ww"
    exact harv hsc k
  · walk_at "ww"
    refine c_isi ty hk ?_
    walk_at "ww"
    exact harv hsc k
/-- no integer -/
structure NoInt (K : PySem.W.Frag) (δ : Sto) (d : D) : Prop where
  ex : (∃ b, d = .bl b) ∨ ∃ t, TyD K δ d t ∧ PySem.W.kitOne K t (.type "int") = some false
theorem NoInt.sp {δ : Sto} {d : D} {R : RK} {T : XD} (h : NoInt K δ d) (k : R (.bl false) δ) : SpIsInt K [d] δ R T := by
  rcases h.ex with ⟨b, rfl⟩ | ⟨t, ty, hk⟩
  · exact .bl k
  · exact .no ty hk k
/-- Ratio.__init__: the new instance at j -/
inductive SpInit (C CI CN : Addr) (K : PySem.W.Frag) : DSp
  | ok {δ : Sto} {R : RK} {T : XD} {j : Nat} {p q : Int} (hj : δ[j]? = some (some (.ins C [] []))) (hq : q ≠ 0) (hp1 : p.natAbs < 2 ^ 8000) (hq1 : q.natAbs < 2 ^ 8000) (k : R .non (δ.set j (some (rlow C p q)))) : SpInit C CI CN K [.al j, .int p, .int q] δ R T
theorem ok_init {CI CN : Addr} (F : FunD K "__init__" "Ratio.__init__" (defArgs s_Ratio_init) (defBody s_Ratio_init) (defScope s_Ratio_init) [.int 1] [] f fd) (T : RatT K mg C) (g1 : FnD P w K mg base 1 "is_integer" ["thing"] [] (SpIsInt K)) (g2 : FnD P w K mg base 1 "greatest_divisor" ["one", "other"] [] SpGcd) : FnOk P w K mg base (L2.CX P w) 3 f fd ["self", "top", "bottom"] (spOf K (SpInit C CI CN K)) := by
  refine fund_ok F sc_Ratio_init (fun ds δ R T h => by cases h <;> rfl) ?_
  rintro cdv A outer s H E Nf γ Fz T' tk po ds δ R T0 hT hr hsc h
  have nd := sc_Ratio_init.nd
  have r1 : Room 1 _ := hr.mono (by decide)
  obtain @⟨_, _, _, j, p, q, hj, hq, hp1, hq1, k⟩ := h
  · walk_at "ww"
    refine .int ?_
    walk_at "ww"
    refine .int ?_
    walk_at "ww"
    refine ⟨fun z => absurd (by simpa using z) hq, fun _ => ?_⟩
    walk_at "ww"
    refine .mk ?_
    walk_at "ww"
    have hg0 : (0 : Int) < ((Int.gcd p q : Nat) : Int) := by
      have := Int.gcd_pos_of_ne_zero_right p hq
      omega
    have hg1 : (((Int.gcd p q : Nat) : Int)).natAbs < 2 ^ 9000 := by
      have h1 : Int.gcd p q ≤ q.natAbs := Nat.le_of_dvd (by omega) (Nat.gcd_dvd_right _ _)
      rw [Int.natAbs_natCast]
      exact Nat.lt_of_le_of_lt h1 (Nat.lt_of_lt_of_le hq1 (Nat.pow_le_pow_right (by decide) (by decide)))
    have fin : ∀ (sg : Int), sg = sgn q → (sg = 1 ∨ sg = -1) → WSs ⟨bodyX P w K mg base n_Ratio_init "Ratio.__init__" (defScope s_Ratio_init) f cdv A outer s H E, γ, Fz, Nf, fun C g _ δ => T' C g δ, tk, po⟩ ((defBody s_Ratio_init).drop 5) [some (.al j), some (.int p), some (.int q), some (.int (Int.gcd p q : Nat)), some (.int sg)] δ ⟨fun _ δ' => Harv δ.length R .non δ', Harv δ.length R, fun _ _ => False, fun _ _ => False⟩ := by
      intro sg hsg h1
      have hs : -(2 ^ 64) < sg ∧ sg < 2 ^ 64 := by rcases h1 with rfl | rfl <;> decide
      refine wss_cons (ws_fld T.fT ?_)
      walk_at "ww"
      refine bin_fdiv hg0 hg1 (bin_mulL hs ?_)
      walk_at "ww"
      refine ⟨j, _, _, rfl, hj, by decide, ?_⟩
      refine wss_one (ws_fld T.fB ?_)
      walk_at "ww"
      refine bin_fdiv hg0 hg1 (bin_mulL hs ?_)
      walk_at "ww"
      refine ⟨j, _, _, rfl, get_set hj, by decide, ?_⟩
      rw [List.set_set, hsg]
      exact harvS (by simp) (scoped_set hsc rfl) k
    refine ⟨fun hn => ?_, fun hn => ?_⟩
    · refine we_un (we_int (un_negD ?_))
      exact fin (-1) (by unfold sgn; rw [if_pos (by simpa using hn)]) (.inr rfl)
    · refine we_int ?_
      exact fin 1 (by unfold sgn; rw [if_neg (by simpa using hn)]) (.inl rfl)
end
end K53
namespace K53
open PySem PySem.Spec PyProof.Rows L2 PV
local macro_rules | `(tactic| walk_at "w") => `(tactic| first
  | refine we_int ?_ | refine we_str ?_ | refine we_bl ?_ | refine we_non ?_
  | refine we_name rfl rfl ?_
  | refine wss_one ?_ | refine wss_cons ?_ | refine wss_nil ?_
  | refine ws_par rfl (by assumption) rfl rfl ?_ | refine ws_let (by assumption) rfl ?_ | refine ws_ret ?_ | refine ws_retN ?_ | refine ws_if ?_ | refine ws_pass ?_
  | refine wa_cons ?_ | refine wa_nil ?_
  | refine we_bin ?_ | refine wt_cmp ?_ | refine we_cmp ?_ | refine wt_not ?_ | refine we_not ?_ | refine wt_bool ?_ | refine we_un ?_
  | refine ww_and1 ?_ | refine ww_or1 ?_ | refine ww_and ?_ | refine ww_or ?_ | refine we_one ?_ | refine we_and ?_ | refine we_or ?_ | refine we_ifExp ?_
  | refine we_abs (by assumption) ?_ | refine we_len (by assumption) ?_ | refine we_isinstance (by assumption) ?_ | refine we_all (by assumption) ?_ | refine we_intT (by assumption) ?_ | refine we_boolT (by assumption) ?_ | refine we_strT (by assumption) ?_ | refine we_listT (by assumption) ?_ | refine we_tupleT (by assumption) ?_
  | refine we_intV (by assumption) ?_ | refine we_boolV (by assumption) ?_ | refine we_strV (by assumption) ?_ | refine we_listV (by assumption) ?_ | refine we_tupleV (by assumption) ?_ | refine we_dictV (by assumption) ?_
  | refine c_abs ?_ | refine c_int ?_ | refine c_intB ?_ | refine c_boolI ?_
  | refine bin_add ?_ | refine bin_sub ?_ | refine un_negD ?_ | refine bin_mod (by omega) ?_
  | refine cmp_lt ?_ | refine cmp_le ?_ | refine cmp_gt ?_ | refine cmp_ge ?_ | refine cmp_eqI ?_ | refine cmp_neI ?_ | refine cmp_eqS ?_ | refine cmp_neS ?_ | refine cmp_eqB ?_ | refine cmp_neB ?_ | refine cmp_isN ?_ | refine cmp_notN ?_
  | refine tru_bl ?_ | refine tru_int ?_ | refine tru_non ?_
  | refine c_isB rfl (by decide) ?_
  | refine we_fld (by assumption) ?_ | refine ⟨_, _, _, rfl, rfl, ?_⟩
  | refine we_fn (by assumption) (by first | assumption | exact Room.mono (by assumption) (by decide)) ?_ | refine we_nw (by assumption) (by first | assumption | exact Room.mono (by assumption) (by decide)) ?_
  | refine wt_val ?_
  | refine ⟨_, rfl, ?_⟩ | refine ⟨_, _, rfl, ?_⟩
  | walk_at "sp"
  | refine ⟨fun _ => ?_, fun z => absurd z (by decide)⟩ | refine ⟨fun z => absurd z (by decide), fun _ => ?_⟩
  )
local macro_rules | `(tactic| walk_at "ww") => `(tactic| repeat (walk_at "w"))
section
variable {P : Program} {w : World} {K : PySem.W.Frag} {mg : Str → Option Value} {base : Heap} {f C CI CN CP : Addr} {fd : FuncData}
theorem low1 (p : Int) : lowT p 1 = p ∧ lowB p 1 = 1 := by
  unfold lowT lowB sgn
  rw [if_neg (by decide)]
  simp
/-- Ratio(..) -/
inductive SpRat (C CI CN : Addr) (K : PySem.W.Frag) : DSp
  | two {δ : Sto} {R : RK} {T : XD} {p q : Int} (hq : q ≠ 0) (hp1 : p.natAbs < 2 ^ 8000) (hq1 : q.natAbs < 2 ^ 8000) (k : R (rlow C p q) δ) : SpRat C CI CN K [.int p, .int q] δ R T
  | one {δ : Sto} {R : RK} {T : XD} {p : Int} (hp1 : p.natAbs < 2 ^ 8000) (k : R (rat C p 1) δ) : SpRat C CI CN K [.int p] δ R T
theorem set_last {δ : Sto} {x y : Option D} : (δ ++ [x]).set δ.length y = δ ++ [y] := by
  rw [List.set_append_right _ _ (Nat.le_refl _), Nat.sub_self]; rfl
theorem get_lastD {δ : Sto} {x : Option D} : (δ ++ [x])[δ.length]? = some x := by
  rw [List.getElem?_append_right (Nat.le_refl _), Nat.sub_self]; rfl
theorem nw_rat {ds1 : List Value} (T : RatT K mg C) (kp : PySem.W.keepIn K (.ref C) = true) (m2 : MkD P w K mg base 3 C "Ratio" ["self", "top", "bottom"] [] (SpInit C CI CN K)) (m1 : MkD P w K mg base 3 C "Ratio" ["self", "top", "bottom"] [.int 1] (SpInit C CI CN K)) : NwD P w K mg base 4 C "Ratio" (SpRat C CI CN K) := by
  refine ⟨T.mgC, kp, fun Y h1 h2 h3 h4 h5 hr ρ as δ Q h => ?_⟩
  subst h1 h2 h3 h4 h5
  obtain @⟨_, _, _, p, q, hq, hp1, hq1, k⟩ | @⟨_, _, _, p, hp1, k⟩ := h
  · refine nw_call m2 hr fun sc => ?_
    refine .ok get_lastD hq hp1 hq1 ⟨rfl, _, _, [], ?_, rfl, k⟩
    rw [set_last]
  · refine nw_call m1 hr fun sc => ?_
    refine .ok get_lastD (by decide) hp1 (by decide +kernel) ⟨rfl, _, _, [], ?_, rfl, k⟩
    rw [set_last, rlow, (low1 p).1, (low1 p).2]
/-- as_ratio -/
inductive SpAs (C CI : Addr) (K : PySem.W.Frag) : DSp
  | i {δ : Sto} {R : RK} {T : XD} {p : Int} (hp : p.natAbs < 2 ^ 8000) (k : R (rat C p 1) δ) : SpAs C CI K [.int p] δ R T
  | r {δ : Sto} {R : RK} {T : XD} {p q : Int} (k : R (rat C p q) δ) : SpAs C CI K [rat C p q] δ R T
theorem ok_as (F : Fun K "as_ratio" "as_ratio" s_as_ratio f fd) (B : Blt mg) (T : RatT K mg C) (g1 : FnD P w K mg base 1 "is_integer" ["thing"] [] (SpIsInt K)) (g2 : NwD P w K mg base 4 C "Ratio" (SpRat C CI CN K)) : FnOk P w K mg base (L2.CX P w) 5 f fd ["thing"] (spOf K (SpAs C CI K)) := by
  refine fun_ok F sc_as_ratio (fun ds δ R T h => by cases h <;> rfl) ?_
  rintro cdv A outer s H E Nf γ Fz T' tk po ds δ R T0 hT hr hsc h
  have b1 := B.isinstance_
  have r1 : Room 1 _ := hr.mono (by decide)
  obtain @⟨_, _, _, p, hp, k⟩ | @⟨_, _, _, p, q, k⟩ := h
  · walk_at "ww"
    refine .int ?_
    walk_at "ww"
    exact .one hp (harv hsc k)
  · walk_at "ww"
    refine .no (.ins rfl T.ins) T.kInt ?_
    walk_at "ww"
    refine we_gl T.mgC ?_
    walk_at "ww"
    refine c_isO rfl T.ins T.kOwn ?_
    walk_at "ww"
    exact harv hsc k
/-- a ratio or an int, against a ratio: its top and bottom -/
inductive Num (C : Addr) : D → Int → Int → Prop
  | i (p : Int) : Num C (.int p) p 1
  | r (p q : Int) : Num C (rat C p q) p q
theorem Num.as {δ : Sto} {R : RK} {T : XD} {d : D} {p q : Int} (n : Num C d p q) (hp : p.natAbs < 2 ^ 8000) (k : R (rat C p q) δ) : SpAs C CI K [d] δ R T := by
  cases n with
  | i p => exact .i hp k
  | r p q => exact .r k
/-- self < other -/
inductive SpLt (C : Addr) : DSp
  | mk {δ : Sto} {R : RK} {T : XD} {a b p q : Int} {d : D} (n : Num C d p q) (h1 : a.natAbs < 2 ^ 8000) (h2 : b.natAbs < 2 ^ 8000) (h3 : p.natAbs < 2 ^ 8000) (h4 : q.natAbs < 2 ^ 8000) (k : R (.bl (decide (a * q < p * b))) δ) : SpLt C [rat C a b, d] δ R T
theorem ok_lt (F : Fun K "__lt__" "Ratio.__lt__" s_Ratio_lt f fd) (T : RatT K mg C) (g1 : FnD P w K mg base 5 "as_ratio" ["thing"] [] (SpAs C CI K)) : FnOk P w K mg base (L2.CX P w) 6 f fd ["self", "other"] (spOf K (SpLt C)) := by
  refine fun_ok F sc_Ratio_lt (fun ds δ R T h => by cases h <;> rfl) ?_
  rintro cdv A outer s H E Nf γ Fz T' tk po ds δ R T0 hT hr hsc h
  obtain @⟨_, _, _, a, b, p, q, d, n, h1, h2, h3, h4, k⟩ := h
  have nd := sc_Ratio_lt.nd
  have fT := T.fT
  have fB := T.fB
  walk_at "ww"
  refine n.as h3 ?_
  walk_at "ww"
  refine bin_mulW h1 h4 (by decide) ?_
  walk_at "ww"
  refine bin_mulW h3 h2 (by decide) ?_
  walk_at "ww"
  exact harv hsc k
/-- self == other -/
inductive SpEq (C : Addr) (K : PySem.W.Frag) : DSp
  | int {δ : Sto} {R : RK} {T : XD} {a b p : Int} (k : R (.bl (decide (b = 1) && decide (a = p))) δ) : SpEq C K [rat C a b, .int p] δ R T
  | rat {δ : Sto} {R : RK} {T : XD} {a b p q : Int} (k : R (.bl (decide (a = p) && decide (b = q))) δ) : SpEq C K [K53.rat C a b, K53.rat C p q] δ R T
  | no {δ : Sto} {R : RK} {T : XD} {a b : Int} {d : D} {t : String} (ht : tyNm d = some t) (hn : NoInt K δ d) (hk : PySem.W.kitOne K (.type t) (.ref C) = some false) (k : R (.bl false) δ) : SpEq C K [K53.rat C a b, d] δ R T
theorem ok_eq (F : Fun K "__eq__" "Ratio.__eq__" s_Ratio_eq f fd) (B : Blt mg) (T : RatT K mg C) (g1 : FnD P w K mg base 1 "is_integer" ["thing"] [] (SpIsInt K)) : FnOk P w K mg base (L2.CX P w) 3 f fd ["self", "other"] (spOf K (SpEq C K)) := by
  refine fun_ok F sc_Ratio_eq (fun ds δ R T h => by cases h <;> rfl) ?_
  rintro cdv A outer s H E Nf γ Fz T' tk po ds δ R T0 hT hr hsc h
  have b1 := B.isinstance_
  have fT := T.fT
  have fB := T.fB
  obtain @⟨_, _, _, a, b, p, k⟩ | @⟨_, _, _, a, b, p, q, k⟩ | @⟨_, _, _, a, b, d, t, ht, hn, hk, k⟩ := h
  · walk_at "ww"
    refine .int ?_
    walk_at "ww"
    refine ⟨fun hb => ?_, fun hb => ?_⟩
    · walk_at "ww"
      rw [hb, Bool.true_and] at k
      exact harv hsc k
    · rw [hb, Bool.false_and] at k
      rw [hb]
      exact harv hsc k
  · walk_at "ww"
    refine .no (.ins rfl T.ins) T.kInt ?_
    walk_at "ww"
    refine we_gl T.mgC ?_
    walk_at "ww"
    refine c_isO rfl T.ins T.kOwn ?_
    walk_at "ww"
    refine ⟨fun hb => ?_, fun hb => ?_⟩
    · walk_at "ww"
      rw [hb, Bool.true_and] at k
      exact harv hsc k
    · rw [hb, Bool.false_and] at k
      rw [hb]
      exact harv hsc k
  · walk_at "ww"
    refine hn.sp ?_
    walk_at "ww"
    refine we_gl T.mgC ?_
    walk_at "ww"
    refine c_isBO ht hk ?_
    walk_at "ww"
    exact harv hsc k
end
end K53
namespace K53
open PySem PySem.Spec PyProof.Rows L2 PV
local macro_rules | `(tactic| walk_at "w") => `(tactic| first
  | refine we_int ?_ | refine we_str ?_ | refine we_bl ?_ | refine we_non ?_
  | refine we_name rfl rfl ?_
  | refine wss_one ?_ | refine wss_cons ?_ | refine wss_nil ?_
  | refine ws_par rfl (by assumption) rfl rfl ?_ | refine ws_let (by assumption) rfl ?_ | refine ws_ret ?_ | refine ws_retN ?_ | refine ws_if ?_ | refine ws_pass ?_
  | refine wa_cons ?_ | refine wa_nil ?_
  | refine we_bin ?_ | refine wt_cmp ?_ | refine we_cmp ?_ | refine wt_not ?_ | refine we_not ?_ | refine wt_bool ?_ | refine we_un ?_
  | refine ww_and1 ?_ | refine ww_or1 ?_ | refine ww_and ?_ | refine ww_or ?_ | refine we_one ?_ | refine we_and ?_ | refine we_or ?_ | refine we_ifExp ?_
  | refine we_abs (by assumption) ?_ | refine we_len (by assumption) ?_ | refine we_isinstance (by assumption) ?_ | refine we_all (by assumption) ?_ | refine we_intT (by assumption) ?_ | refine we_boolT (by assumption) ?_ | refine we_strT (by assumption) ?_ | refine we_listT (by assumption) ?_ | refine we_tupleT (by assumption) ?_
  | refine we_intV (by assumption) ?_ | refine we_boolV (by assumption) ?_ | refine we_strV (by assumption) ?_ | refine we_listV (by assumption) ?_ | refine we_tupleV (by assumption) ?_ | refine we_dictV (by assumption) ?_
  | refine c_abs ?_ | refine c_int ?_ | refine c_intB ?_ | refine c_boolI ?_
  | refine bin_add ?_ | refine bin_sub ?_ | refine un_negD ?_ | refine bin_mod (by omega) ?_
  | refine cmp_lt ?_ | refine cmp_le ?_ | refine cmp_gt ?_ | refine cmp_ge ?_ | refine cmp_eqI ?_ | refine cmp_neI ?_ | refine cmp_eqS ?_ | refine cmp_neS ?_ | refine cmp_eqB ?_ | refine cmp_neB ?_ | refine cmp_isN ?_ | refine cmp_notN ?_
  | refine tru_bl ?_ | refine tru_int ?_ | refine tru_non ?_
  | refine c_isB rfl (by decide) ?_
  | refine we_fld (by assumption) ?_ | refine ⟨_, _, _, rfl, rfl, ?_⟩
  | refine we_fn (by assumption) (by first | assumption | exact Room.mono (by assumption) (by decide)) ?_ | refine we_nw (by assumption) (by first | assumption | exact Room.mono (by assumption) (by decide)) ?_
  | refine wt_val ?_
  | refine ⟨_, rfl, ?_⟩ | refine ⟨_, _, rfl, ?_⟩
  | walk_at "sp"
  | refine ⟨fun _ => ?_, fun z => absurd z (by decide)⟩ | refine ⟨fun z => absurd z (by decide), fun _ => ?_⟩
  )
local macro_rules | `(tactic| walk_at "ww") => `(tactic| repeat (walk_at "w"))
section
variable {P : Program} {w : World} {K : PySem.W.Frag} {mg : Str → Option Value} {base : Heap} {f C CI CN CP : Addr} {fd : FuncData}
/-- what is a price: a ratio or an int, not below 1 -/
structure Good (C : Addr) (d : D) (p q : Int) : Prop where
  n : Num C d p q
  ge : ¬ (p * 1 < 1 * q)
  bp : p.natAbs < 2 ^ 8000
  bq : q.natAbs < 2 ^ 8000
/-- what is none -/
inductive Bad (C : Addr) (K : PySem.W.Frag) : D → Prop
  | low {d : D} {p q : Int} (n : Num C d p q) (lt : p * 1 < 1 * q) (bp : p.natAbs < 2 ^ 8000) (bq : q.natAbs < 2 ^ 8000) : Bad C K d
  | bl (b : Bool) : Bad C K (.bl b)
  | non : Bad C K .non
  | str (x : Str) : Bad C K (.str x)
inductive SpPrice (C CP : Addr) (K : PySem.W.Frag) : DSp
  | ok {δ : Sto} {R : RK} {T : XD} {nm d : D} {p q : Int} (g : Good C d p q) (k : R (rat C p q) δ) : SpPrice C CP K [nm, d] δ R T
  | bad {δ : Sto} {R : RK} {T : XD} {nm d : D} (hn : nm.isAl = false) (b : Bad C K d) (k : T CP nm δ) : SpPrice C CP K [nm, d] δ R T
theorem noInt_nm {δ : Sto} {d : D} {t : String} (h : tyNm d = some t) (hk : PySem.W.kitOne K (.type t) (.type "int") = some false) : NoInt K δ d := ⟨.inr ⟨_, (tyD_nm h).1, hk⟩⟩
theorem ok_price (F : Fun K "as_price" "as_price" s_as_price f fd) (B : Blt mg) (T : RatT K mg C) (g1 : FnD P w K mg base 1 "is_integer" ["thing"] [] (SpIsInt K)) (g2 : FnD P w K mg base 5 "as_ratio" ["thing"] [] (SpAs C CI K)) (g3 : MtD P w K mg base 6 C "__lt__" ["self", "other"] [] (SpLt C)) (e1 : ErrD P w K mg base "InvalidPrices" CP) : FnOk P w K mg base (L2.CX P w) 8 f fd ["name", "thing"] (spOf K (SpPrice C CP K)) := by
  refine fun_ok F sc_as_price (fun ds δ R T h => by cases h <;> rfl) ?_
  rintro cdv A outer s H E Nf γ Fz T' tk po ds δ R T0 hT hr hsc h
  have nd := sc_as_price.nd
  have b1 := B.isinstance_
  have r1 : Room 1 _ := hr.mono (by decide)
  have r6 : Room 6 _ := hr.mono (by decide)
  have two : (2 : Nat) ^ 8000 > 1 := Nat.one_lt_two_pow (by decide)
  have i1 : (1 : Int).natAbs < 2 ^ 8000 := two
  have rest : ∀ nm d p q, Num C d p q → p.natAbs < 2 ^ 8000 → q.natAbs < 2 ^ 8000 → (p * 1 < 1 * q → nm.isAl = false ∧ T0 CP nm δ) → (¬ p * 1 < 1 * q → R (rat C p q) δ) → WSs ⟨bodyX P w K mg base n_as_price "as_price" (defScope s_as_price) f cdv A outer s H E, γ, Fz, Nf, fun C g _ δ => T' C g δ, tk, po⟩ ((defBody s_as_price).drop 1) [some nm, some d] δ ⟨fun _ δ' => Harv δ.length R .non δ', Harv δ.length R, fun _ _ => False, fun _ _ => False⟩ := by
    intro nm d p q n bp bq k1 k2
    walk_at "ww"
    refine n.as bp ?_
    walk_at "ww"
    refine cmp_own g3 r6 rfl (.ty (tyD_nm rfl).1) T.nfI (.mk (.i 1) bp bq i1 i1 ?_)
    walk_at "ww"
    refine ⟨fun hl => ?_, fun hl => ?_⟩
    · obtain ⟨hn, k⟩ := k1 (by simpa using hl)
      refine wss_one (ws_raise e1 (hr.mono (by decide)) rfl ?_)
      walk_at "ww"
      show T' CP nm δ
      rw [hT]
      exact harv hsc k hn
    · walk_at "ww"
      refine n.as bp ?_
      exact harv hsc (k2 (by simpa using hl))
  have num : ∀ nm d p q, Num C d p q → p.natAbs < 2 ^ 8000 → q.natAbs < 2 ^ 8000 → (p * 1 < 1 * q → nm.isAl = false ∧ T0 CP nm δ) → (¬ p * 1 < 1 * q → R (rat C p q) δ) → WSs ⟨bodyX P w K mg base n_as_price "as_price" (defScope s_as_price) f cdv A outer s H E, γ, Fz, Nf, fun C g _ δ => T' C g δ, tk, po⟩ (defBody s_as_price) [some nm, some d] δ ⟨fun _ δ' => Harv δ.length R .non δ', Harv δ.length R, fun _ _ => False, fun _ _ => False⟩ := by
    intro nm d p q n bp bq k1 k2
    have rr := rest nm d p q n bp bq k1 k2
    cases n with
    | i p =>
      refine wss_cons (ws_if ?_)
      walk_at "ww"
      refine .int ?_
      repeat (first | exact rr | walk_at "w")
    | r p q =>
      refine wss_cons (ws_if ?_)
      walk_at "ww"
      refine .no (.ins rfl T.ins) T.kInt ?_
      walk_at "ww"
      refine we_gl T.mgC ?_
      walk_at "ww"
      refine c_isO rfl T.ins T.kOwn ?_
      repeat (first | exact rr | walk_at "w")
  have odd : ∀ nm d t, tyNm d = some t → NoInt K δ d → PySem.W.kitOne K (.type t) (.ref C) = some false → nm.isAl = false → T0 CP nm δ → WSs ⟨bodyX P w K mg base n_as_price "as_price" (defScope s_as_price) f cdv A outer s H E, γ, Fz, Nf, fun C g _ δ => T' C g δ, tk, po⟩ (defBody s_as_price) [some nm, some d] δ ⟨fun _ δ' => Harv δ.length R .non δ', Harv δ.length R, fun _ _ => False, fun _ _ => False⟩ := by
    intro nm d t ht hn hk hnm k
    refine wss_cons (ws_if ?_)
    walk_at "ww"
    refine hn.sp ?_
    walk_at "ww"
    refine we_gl T.mgC ?_
    walk_at "ww"
    refine c_isBO ht hk ?_
    walk_at "ww"
    refine ws_raise e1 (hr.mono (by decide)) rfl ?_
    walk_at "ww"
    show T' CP nm δ
    rw [hT]
    exact harv hsc k hnm
  obtain @⟨_, _, _, nm, d, p, q, g, k⟩ | @⟨_, _, _, nm, d, hn, b, k⟩ := h
  · exact num nm d p q g.n g.bp g.bq (fun z => absurd z g.ge) fun _ => k
  · cases b with
    | low n lt bp bq => exact num nm d _ _ n bp bq (fun _ => ⟨hn, k⟩) fun z => absurd lt z
    | bl b => exact odd nm _ "bool" rfl ⟨.inl ⟨b, rfl⟩⟩ T.kB hn k
    | non => exact odd nm _ "NoneType" rfl (noInt_nm rfl (kit_nm (by decide) (by decide))) T.kN hn k
    | str x => exact odd nm _ "str" rfl (noInt_nm rfl (kit_nm (by decide) (by decide))) T.kS hn k
end
end K53
namespace K53
open PySem PySem.Spec PyProof.Rows L2 PV
local macro_rules | `(tactic| walk_at "w") => `(tactic| first
  | refine we_int ?_ | refine we_str ?_ | refine we_bl ?_ | refine we_non ?_
  | refine we_name rfl rfl ?_
  | refine wss_one ?_ | refine wss_cons ?_ | refine wss_nil ?_
  | refine ws_par rfl (by assumption) rfl rfl ?_ | refine ws_let (by assumption) rfl ?_ | refine ws_ret ?_ | refine ws_retN ?_ | refine ws_if ?_ | refine ws_pass ?_
  | refine wa_cons ?_ | refine wa_nil ?_
  | refine we_bin ?_ | refine wt_cmp ?_ | refine we_cmp ?_ | refine wt_not ?_ | refine we_not ?_ | refine wt_bool ?_ | refine we_un ?_
  | refine ww_and1 ?_ | refine ww_or1 ?_ | refine ww_and ?_ | refine ww_or ?_ | refine we_one ?_ | refine we_and ?_ | refine we_or ?_ | refine we_ifExp ?_
  | refine we_abs (by assumption) ?_ | refine we_len (by assumption) ?_ | refine we_isinstance (by assumption) ?_ | refine we_all (by assumption) ?_ | refine we_intT (by assumption) ?_ | refine we_boolT (by assumption) ?_ | refine we_strT (by assumption) ?_ | refine we_listT (by assumption) ?_ | refine we_tupleT (by assumption) ?_
  | refine we_intV (by assumption) ?_ | refine we_boolV (by assumption) ?_ | refine we_strV (by assumption) ?_ | refine we_listV (by assumption) ?_ | refine we_tupleV (by assumption) ?_ | refine we_dictV (by assumption) ?_
  | refine c_abs ?_ | refine c_int ?_ | refine c_intB ?_ | refine c_boolI ?_
  | refine bin_add ?_ | refine bin_sub ?_ | refine un_negD ?_ | refine bin_mod (by omega) ?_
  | refine cmp_lt ?_ | refine cmp_le ?_ | refine cmp_gt ?_ | refine cmp_ge ?_ | refine cmp_eqI ?_ | refine cmp_neI ?_ | refine cmp_eqS ?_ | refine cmp_neS ?_ | refine cmp_eqB ?_ | refine cmp_neB ?_ | refine cmp_isN ?_ | refine cmp_notN ?_
  | refine tru_bl ?_ | refine tru_int ?_ | refine tru_non ?_
  | refine c_isB rfl (by decide) ?_
  | refine we_fld (by assumption) ?_ | refine ⟨_, _, _, rfl, rfl, ?_⟩
  | refine we_fn (by assumption) (by first | assumption | exact Room.mono (by assumption) (by decide)) ?_ | refine we_nw (by assumption) (by first | assumption | exact Room.mono (by assumption) (by decide)) ?_
  | refine wt_val ?_
  | refine ⟨_, rfl, ?_⟩ | refine ⟨_, _, rfl, ?_⟩
  | walk_at "sp"
  | refine ⟨fun _ => ?_, fun z => absurd z (by decide)⟩ | refine ⟨fun z => absurd z (by decide), fun _ => ?_⟩
  )
local macro_rules | `(tactic| walk_at "ww") => `(tactic| repeat (walk_at "w"))
section
variable {P : Program} {w : World} {K : PySem.W.Frag} {mg : Str → Option Value} {base : Heap} {f C CI CN CP CQ : Addr} {fd : FuncData}
theorem Good.isAl {d : D} {p q : Int} (g : Good C d p q) : d.isAl = false := by cases g.n <;> rfl
theorem Bad.isAl {d : D} (g : Bad C K d) : d.isAl = false := by
  cases g with
  | low n => cases n <;> rfl
  | _ => rfl
abbrev kn : List Key := [.inr "lost", .inr "surplus", .inr "value", .inr "junction"]
/-- the prices at j, their dict at m -/
structure IsPr (CQ : Addr) (δ : Sto) (j m : Nat) (rs : List D) : Prop where
  o : δ[j]? = some (some (.ins CQ ["known"] [.al m]))
  d : δ[m]? = some (some (.dct kn rs))
/-- what the text says of the class Prices -/
structure PrT (K : PySem.W.Frag) (mg : Str → Option Value) (CQ : Addr) : Prop where
  mgC : mg "Prices" = some (.ref CQ)
  ins : InsT K CQ
  fK : Fld K CQ "known"
  kOwn : PySem.W.kitOne K (.ref CQ) (.ref CQ) = some true
  kI : PySem.W.kitOne K (.type "int") (.ref CQ) = some false
  nfI : PySem.W.notFirst K CQ (.type "int") = true
  nfC : PySem.W.notFirst K CQ (.ref CQ) = true
  eqT : EqT K CQ
theorem scoped_kill {δ δ' : Sto} (k : Kill δ δ') (sc : Scoped δ) : Scoped δ' := fun j o e i m => by
  rw [k.1]; exact sc j o (k.2 j o e) i m
theorem scoped_pr {δ : Sto} {j : Nat} {ks : List Key} {rs : List D} (sc : Scoped δ) (hn : noAl rs = true) : Scoped (δ.set j (some (.ins CQ ["known"] [.al δ.length])) ++ [some (D.dct ks rs)]) := fun i o e k m => by
  have hl : (δ.set j (some (.ins CQ ["known"] [.al δ.length])) ++ [some (D.dct ks rs)]).length = δ.length + 1 := by simp
  rw [hl]
  by_cases hi : i < δ.length
  · rw [List.getElem?_append_left (by simpa using hi)] at e
    by_cases hj : j = i
    · subst hj
      rw [List.getElem?_set_self hi] at e
      cases e
      simp at m
      omega
    · rw [List.getElem?_set_ne hj] at e
      have := sc i o e k m
      omega
  · rw [List.getElem?_append_right (by simpa using hi)] at e
    have h0 : i - (δ.set j (some (.ins CQ ["known"] [.al δ.length]))).length = 0 := by
      have := (List.getElem?_eq_some_iff.mp e).1
      simpa using this
    rw [h0] at e
    cases e
    have m' : D.al k ∈ rs := m
    have := List.all_eq_true.mp hn _ m'
    simp [D.isAl] at this
/-- the first that is no price, by its name -/
def FirstBad (C : Addr) (K : PySem.W.Frag) : List (Str × D) → Str → Prop
  | [], _ => False
  | (n, d) :: r, nm => (Bad C K d ∧ nm = n) ∨ ((∃ p q, Good C d p q) ∧ FirstBad C K r nm)
inductive SpPInit (C CP CQ : Addr) (K : PySem.W.Frag) : DSp
  | ok {δ : Sto} {R : RK} {T : XD} {j : Nat} {d1 d2 d3 d4 : D} {p1 q1 p2 q2 p3 q3 p4 q4 : Int} (hj : δ[j]? = some (some (.ins CQ [] []))) (g1 : Good C d1 p1 q1) (g2 : Good C d2 p2 q2) (g3 : Good C d3 p3 q3) (g4 : Good C d4 p4 q4)
      (k : R .non (δ.set j (some (.ins CQ ["known"] [.al δ.length])) ++ [some (.dct kn [rat C p1 q1, rat C p2 q2, rat C p3 q3, rat C p4 q4])])) : SpPInit C CP CQ K [.al j, d1, d2, d3, d4] δ R T
  | bad {δ : Sto} {R : RK} {T : XD} {j : Nat} {d1 d2 d3 d4 : D} {nm : Str} (hj : δ[j]? = some (some (.ins CQ [] []))) (hb : FirstBad C K [("lost", d1), ("surplus", d2), ("value", d3), ("junction", d4)] nm) (h1 : d1.isAl = false) (h2 : d2.isAl = false) (h3 : d3.isAl = false) (h4 : d4.isAl = false)
      (k : T CP (.str nm) (δ.set j none)) : SpPInit C CP CQ K [.al j, d1, d2, d3, d4] δ R T
/-- what comes of the prices, one after the other -/
def Oc (C CP : Addr) (K : PySem.W.Frag) (T0 : XD) (δk : Sto) (fin : List Key → List D → Prop) : List (Str × D) → List Key → List D → Prop
  | [], ks, rs => fin ks rs
  | (n, d) :: r, ks, rs => (∃ p q, Good C d p q ∧ Oc C CP K T0 δk fin r (putKs (.inr n) ks) (putKd (.inr n) (rat C p q) ks rs)) ∨ (Bad C K d ∧ T0 CP (.str n) δk)
theorem oc_bad {T0 : XD} {δk : Sto} {fin : List Key → List D → Prop} {nm : Str} (k : T0 CP (.str nm) δk) : ∀ (l : List (Str × D)) (ks : List Key) (rs : List D), FirstBad C K l nm → Oc C CP K T0 δk fin l ks rs
  | [], ks, rs, h => h.elim
  | (n, d) :: r, ks, rs, h => by
    rcases h with ⟨b, rfl⟩ | ⟨⟨p, q, g⟩, h⟩
    · exact .inr ⟨b, k⟩
    · exact .inl ⟨p, q, g, oc_bad k r _ _ h⟩
theorem putKs_len {k : Key} {ks : List Key} : (putKs k ks).length ≤ ks.length + 1 := by
  unfold putKs; split <;> simp
theorem res_of {δ : Sto} {j : Nat} {o : D} (h : δ[j]? = some (some o)) : res δ (.al j) = o := by show ((δ[j]?).join).getD .non = o; rw [h]; rfl
theorem noAl2 {x : Str} {d : D} (h : d.isAl = false) : noAl [.str x, d] = true := by unfold noAl; rw [List.all_cons, List.all_cons, h]; rfl
theorem ok_pinit {dvs : List V} {kws : List (Str × V)} (F : FunD K "__init__" "Prices.__init__" (defArgs s_Prices_init) (defBody s_Prices_init) (defScope s_Prices_init) dvs kws f fd) (T : RatT K mg C) (TQ : PrT K mg CQ) (g1 : FnD P w K mg base 8 "as_price" ["name", "thing"] [] (SpPrice C CP K)) : FnOk P w K mg base (L2.CX P w) 9 f fd ["self", "lost", "surplus", "value", "junction"] (spOf K (SpPInit C CP CQ K)) := by
  refine fund_ok F sc_Prices_init (fun ds δ R T h => by cases h <;> rfl) ?_
  rintro cdv A outer s H E Nf γ Fz T' tk po ds δ R T0 hT hr hsc h
  have nd := sc_Prices_init.nd
  have hu := hu_of hr
  have r8 : Room 8 _ := hr
  obtain ⟨j, d1, d2, d3, d4, hj, e⟩ : ∃ j d1 d2 d3 d4, δ[j]? = some (some (.ins CQ [] [])) ∧ ds = [.al j, d1, d2, d3, d4] := by cases h <;> exact ⟨_, _, _, _, _, by assumption, rfl⟩
  subst e
  have hjl : j < δ.length := (List.getElem?_eq_some_iff.mp hj).1
  have len5 : (δ.set j (some (.ins CQ ["known"] [.al δ.length]))).length = δ.length := by simp
  have oc : Oc C CP K T0 (δ.set j none) (fun ks rs => noAl rs = true ∧ R .non (δ.set j (some (.ins CQ ["known"] [.al δ.length])) ++ [some (.dct ks rs)])) [("lost", d1), ("surplus", d2), ("value", d3), ("junction", d4)] [] [] := by
    cases h with
    | ok _ g1 g2 g3 g4 k => exact .inl ⟨_, _, g1, .inl ⟨_, _, g2, .inl ⟨_, _, g3, .inl ⟨_, _, g4, rfl, k⟩⟩⟩⟩
    | bad _ hb _ _ _ _ k => exact oc_bad k _ _ _ hb
  have nal : d1.isAl = false ∧ d2.isAl = false ∧ d3.isAl = false ∧ d4.isAl = false := by
    cases h with
    | ok _ g1 g2 g3 g4 k => exact ⟨g1.isAl, g2.isAl, g3.isAl, g4.isAl⟩
    | bad _ hb h1 h2 h3 h4 k => exact ⟨h1, h2, h3, h4⟩
  refine wss_cons (ws_fld TQ.fK (we_dnew (we_name rfl rfl ⟨j, _, _, rfl, by rw [List.getElem?_append_left hjl]; exact hj, by decide, ?_⟩)))
  rw [List.set_append_left _ _ hjl]
  refine wss_one (ws_forN rfl (wi_list (we_lst ?_)))
  walk_at "ww"
  refine we_tup ?_
  walk_at "ww"
  refine ⟨(by decide : 2 ≤ sizeLine), noAl2 nal.1, ?_⟩
  walk_at "ww"
  refine we_tup ?_
  walk_at "ww"
  refine ⟨(by decide : 2 ≤ sizeLine), noAl2 nal.2.1, ?_⟩
  walk_at "ww"
  refine we_tup ?_
  walk_at "ww"
  refine ⟨(by decide : 2 ≤ sizeLine), noAl2 nal.2.2.1, ?_⟩
  walk_at "ww"
  refine we_tup ?_
  walk_at "ww"
  refine ⟨(by decide : 2 ≤ sizeLine), noAl2 nal.2.2.2, ?_⟩
  refine wa_nil ⟨(by decide : 4 ≤ sizeLine), rfl, _, rfl, fun _ => ?_⟩
  refine forN_loop (I := fun l ρ δ' => ∃ ks rs x y, ρ = [some (.al j), some d1, some d2, some d3, some d4, x, y] ∧ δ' = δ.set j (some (.ins CQ ["known"] [.al δ.length])) ++ [some (.dct ks rs)] ∧ ks.length + l.length < 100 ∧ Oc C CP K T0 (δ.set j none) (fun ks rs => noAl rs = true ∧ R .non (δ.set j (some (.ins CQ ["known"] [.al δ.length])) ++ [some (.dct ks rs)])) l ks rs) (g := fun n => .tup [.str n.1, n.2]) ?_ ?_ [("lost", d1), ("surplus", d2), ("value", d3), ("junction", d4)] _ _ ⟨[], [], none, none, rfl, rfl, (by decide : 4 < 100), oc⟩
  · rintro ⟨nm, d⟩ r _ _ ⟨ks, rs, x, y, rfl, rfl, hlen, oc⟩
    have hj2 : (δ.set j (some (.ins CQ ["known"] [.al δ.length])) ++ [some (.dct ks rs)])[j]? = some (some (.ins CQ ["known"] [.al δ.length])) := by
      rw [List.getElem?_append_left (by simpa using hjl), List.getElem?_set_self hjl]
    have hm2 : (δ.set j (some (.ins CQ ["known"] [.al δ.length])) ++ [some (.dct ks rs)])[δ.length]? = some (some (.dct ks rs)) := by
      have z := get_lastD (δ := δ.set j (some (.ins CQ ["known"] [.al δ.length]))) (x := some (.dct ks rs))
      rw [len5] at z; exact z
    refine ⟨rfl, wg_two rfl nd rfl rfl ?_⟩
    refine wss_one (ws_sub ?_)
    walk_at "ww"
    rcases oc with ⟨p, q, g, oc⟩ | ⟨b, k⟩
    · refine .ok g ?_
      have fK := TQ.fK
      walk_at "ww"
      refine ⟨_, _, _, res_of hj2, rfl, ?_⟩
      walk_at "ww"
      have hl2 : ks.length < sizeLine := Nat.lt_of_lt_of_le (show ks.length < 100 by simp at hlen; omega) (by decide)
      refine set_dct hu hm2 rfl hl2 ⟨_, _, _, _, rfl, ?_, ?_, oc⟩
      · have z := set_last (δ := δ.set j (some (.ins CQ ["known"] [.al δ.length]))) (x := some (.dct ks rs)) (y := some (.dct (putKs (.inr nm) ks) (putKd (.inr nm) (rat C p q) ks rs)))
        rw [len5] at z; exact z
      · have := putKs_len (k := .inr nm) (ks := ks)
        simp at hlen
        omega
    · refine .bad rfl b ?_
      show T' CP (.str nm) _
      rw [hT]
      refine .kill (.at j) ?_
      rw [List.set_append_left _ _ (by simpa using hjl), List.set_set]
      exact ⟨δ.set j none, _, .refl, by simp, scoped_kill (.at j) hsc, (fun _ z => by cases z), k⟩
  · rintro _ _ ⟨ks, rs, x, y, rfl, rfl, hlen, hn, k⟩
    refine ⟨rfl, harvS (by simp) (scoped_pr hsc hn) k⟩
end
end K53
namespace K53
open PySem PySem.Spec PyProof.Rows L2 PV
local macro_rules | `(tactic| walk_at "w") => `(tactic| first
  | refine we_int ?_ | refine we_str ?_ | refine we_bl ?_ | refine we_non ?_
  | refine we_name rfl rfl ?_
  | refine wss_one ?_ | refine wss_cons ?_ | refine wss_nil ?_
  | refine ws_par rfl (by assumption) rfl rfl ?_ | refine ws_let (by assumption) rfl ?_ | refine ws_ret ?_ | refine ws_retN ?_ | refine ws_if ?_ | refine ws_pass ?_
  | refine wa_cons ?_ | refine wa_nil ?_
  | refine we_bin ?_ | refine wt_cmp ?_ | refine we_cmp ?_ | refine wt_not ?_ | refine we_not ?_ | refine wt_bool ?_ | refine we_un ?_
  | refine ww_and1 ?_ | refine ww_or1 ?_ | refine ww_and ?_ | refine ww_or ?_ | refine we_one ?_ | refine we_and ?_ | refine we_or ?_ | refine we_ifExp ?_
  | refine we_abs (by assumption) ?_ | refine we_len (by assumption) ?_ | refine we_isinstance (by assumption) ?_ | refine we_all (by assumption) ?_ | refine we_intT (by assumption) ?_ | refine we_boolT (by assumption) ?_ | refine we_strT (by assumption) ?_ | refine we_listT (by assumption) ?_ | refine we_tupleT (by assumption) ?_
  | refine we_intV (by assumption) ?_ | refine we_boolV (by assumption) ?_ | refine we_strV (by assumption) ?_ | refine we_listV (by assumption) ?_ | refine we_tupleV (by assumption) ?_ | refine we_dictV (by assumption) ?_
  | refine c_abs ?_ | refine c_int ?_ | refine c_intB ?_ | refine c_boolI ?_
  | refine bin_add ?_ | refine bin_sub ?_ | refine un_negD ?_ | refine bin_mod (by omega) ?_
  | refine cmp_lt ?_ | refine cmp_le ?_ | refine cmp_gt ?_ | refine cmp_ge ?_ | refine cmp_eqI ?_ | refine cmp_neI ?_ | refine cmp_eqS ?_ | refine cmp_neS ?_ | refine cmp_eqB ?_ | refine cmp_neB ?_ | refine cmp_isN ?_ | refine cmp_notN ?_
  | refine tru_bl ?_ | refine tru_int ?_ | refine tru_non ?_
  | refine c_isB rfl (by decide) ?_
  | refine we_fld (by assumption) ?_ | refine ⟨_, _, _, rfl, rfl, ?_⟩
  | refine we_fn (by assumption) (by first | assumption | exact Room.mono (by assumption) (by decide)) ?_ | refine we_nw (by assumption) (by first | assumption | exact Room.mono (by assumption) (by decide)) ?_
  | refine wt_val ?_
  | refine ⟨_, rfl, ?_⟩ | refine ⟨_, _, rfl, ?_⟩
  | walk_at "sp"
  | refine ⟨fun _ => ?_, fun z => absurd z (by decide)⟩ | refine ⟨fun z => absurd z (by decide), fun _ => ?_⟩
  )
local macro_rules | `(tactic| walk_at "ww") => `(tactic| repeat (walk_at "w"))
section
variable {P : Program} {w : World} {K : PySem.W.Frag} {mg : Str → Option Value} {base : Heap} {f C CI CN CP CQ : Addr} {fd : FuncData}
/-- the price of a name -/
inductive SpGet (CQ : Addr) (x : Str) : DSp
  | mk {δ : Sto} {R : RK} {T : XD} {j m : Nat} {rs : List D} {d : D} (pr : IsPr CQ δ j m rs) (h : lookK (.inr x) kn rs = some d) (hn : d.isAl = false) (k : R d δ) : SpGet CQ x [.al j] δ R T
theorem ok_get_lost (F : Fun K "lost" "Prices.lost" s_Prices_lost f fd) (TQ : PrT K mg CQ) : FnOk P w K mg base (L2.CX P w) 2 f fd ["self"] (spOf K (SpGet CQ "lost")) := by
  refine fun_ok F sc_Prices_lost (fun ds δ R T h => by cases h <;> rfl) ?_
  rintro cdv A outer s H E Nf γ Fz T' tk po ds δ R T0 hT hr hsc h
  obtain @⟨_, _, _, j, m, rs, d, pr, h, hn, k⟩ := h
  have fK := TQ.fK
  walk_at "ww"
  refine we_ix ?_
  walk_at "ww"
  refine ⟨_, _, _, res_of pr.o, rfl, ?_⟩
  walk_at "ww"
  exact ix_dct (hu_of hr) (res_of pr.d) rfl h (harv hsc k hn)
theorem ok_get_surplus (F : Fun K "surplus" "Prices.surplus" s_Prices_surplus f fd) (TQ : PrT K mg CQ) : FnOk P w K mg base (L2.CX P w) 2 f fd ["self"] (spOf K (SpGet CQ "surplus")) := by
  refine fun_ok F sc_Prices_surplus (fun ds δ R T h => by cases h <;> rfl) ?_
  rintro cdv A outer s H E Nf γ Fz T' tk po ds δ R T0 hT hr hsc h
  obtain @⟨_, _, _, j, m, rs, d, pr, h, hn, k⟩ := h
  have fK := TQ.fK
  walk_at "ww"
  refine we_ix ?_
  walk_at "ww"
  refine ⟨_, _, _, res_of pr.o, rfl, ?_⟩
  walk_at "ww"
  exact ix_dct (hu_of hr) (res_of pr.d) rfl h (harv hsc k hn)
theorem ok_get_value (F : Fun K "value" "Prices.value" s_Prices_value f fd) (TQ : PrT K mg CQ) : FnOk P w K mg base (L2.CX P w) 2 f fd ["self"] (spOf K (SpGet CQ "value")) := by
  refine fun_ok F sc_Prices_value (fun ds δ R T h => by cases h <;> rfl) ?_
  rintro cdv A outer s H E Nf γ Fz T' tk po ds δ R T0 hT hr hsc h
  obtain @⟨_, _, _, j, m, rs, d, pr, h, hn, k⟩ := h
  have fK := TQ.fK
  walk_at "ww"
  refine we_ix ?_
  walk_at "ww"
  refine ⟨_, _, _, res_of pr.o, rfl, ?_⟩
  walk_at "ww"
  exact ix_dct (hu_of hr) (res_of pr.d) rfl h (harv hsc k hn)
theorem ok_get_junction (F : Fun K "junction" "Prices.junction" s_Prices_junction f fd) (TQ : PrT K mg CQ) : FnOk P w K mg base (L2.CX P w) 2 f fd ["self"] (spOf K (SpGet CQ "junction")) := by
  refine fun_ok F sc_Prices_junction (fun ds δ R T h => by cases h <;> rfl) ?_
  rintro cdv A outer s H E Nf γ Fz T' tk po ds δ R T0 hT hr hsc h
  obtain @⟨_, _, _, j, m, rs, d, pr, h, hn, k⟩ := h
  have fK := TQ.fK
  walk_at "ww"
  refine we_ix ?_
  walk_at "ww"
  refine ⟨_, _, _, res_of pr.o, rfl, ?_⟩
  walk_at "ww"
  exact ix_dct (hu_of hr) (res_of pr.d) rfl h (harv hsc k hn)
/-- a price is set anew -/
inductive SpChange (C CP CQ : Addr) (K : PySem.W.Frag) : DSp
  | ok {δ : Sto} {R : RK} {T : XD} {j m : Nat} {rs : List D} {nm : Str} {d : D} {p q : Int} (pr : IsPr CQ δ j m rs) (h : (lookK (.inr nm) kn rs).isSome = true) (hn : noAl (putKd (.inr nm) (rat C p q) kn rs) = true) (g : Good C d p q) (k : R .non (δ.set m (some (.dct (putKs (.inr nm) kn) (putKd (.inr nm) (rat C p q) kn rs))))) : SpChange C CP CQ K [.al j, .str nm, d] δ R T
  | bad {δ : Sto} {R : RK} {T : XD} {j m : Nat} {rs : List D} {nm : Str} {d : D} (pr : IsPr CQ δ j m rs) (h : (lookK (.inr nm) kn rs).isSome = true) (b : Bad C K d) (k : T CP (.str nm) δ) : SpChange C CP CQ K [.al j, .str nm, d] δ R T
  | no {δ : Sto} {R : RK} {T : XD} {j m : Nat} {rs : List D} {nm : Str} {d : D} (pr : IsPr CQ δ j m rs) (h : (lookK (.inr nm) kn rs).isSome = false) (k : T CP (.str nm) δ) : SpChange C CP CQ K [.al j, .str nm, d] δ R T
  | non {δ : Sto} {R : RK} {T : XD} {j : Nat} {d : D} (k : T CP .non δ) : SpChange C CP CQ K [.al j, .non, d] δ R T
theorem ok_change (F : Fun K "change" "Prices.change" s_Prices_change f fd) (B : Blt mg) (TQ : PrT K mg CQ) (g1 : FnD P w K mg base 8 "as_price" ["name", "thing"] [] (SpPrice C CP K)) (e1 : ErrD P w K mg base "InvalidPrices" CP) : FnOk P w K mg base (L2.CX P w) 9 f fd ["self", "name", "price"] (spOf K (SpChange C CP CQ K)) := by
  refine fun_ok F sc_Prices_change (fun ds δ R T h => by cases h <;> rfl) ?_
  rintro cdv A outer s H E Nf γ Fz T' tk po ds δ R T0 hT hr hsc h
  have nd := sc_Prices_change.nd
  have b1 := B.isinstance_
  have b2 := B.str_
  have fK := TQ.fK
  have r8 : Room 8 _ := hr
  obtain @⟨_, _, _, j, m, rs, nm, d, p, q, pr, h, hn, g, k⟩ | @⟨_, _, _, j, m, rs, nm, d, pr, h, b, k⟩ | @⟨_, _, _, j, m, rs, nm, d, pr, h, k⟩ | @⟨_, _, _, j, d, k⟩ := h
  · walk_at "ww"
    refine ⟨_, _, _, res_of pr.o, rfl, ?_⟩
    refine cmp_notinD (hu_of hr) (res_of pr.d) rfl ?_
    rw [h]
    walk_at "ww"
    refine ws_sub ?_
    walk_at "ww"
    refine .ok g ?_
    walk_at "ww"
    refine ⟨_, _, _, res_of pr.o, rfl, ?_⟩
    walk_at "ww"
    exact set_dct (hu_of hr) pr.d rfl (by decide) (harvS (by simp) (scoped_set hsc hn) k)
  · walk_at "ww"
    refine ⟨_, _, _, res_of pr.o, rfl, ?_⟩
    refine cmp_notinD (hu_of hr) (res_of pr.d) rfl ?_
    rw [h]
    walk_at "ww"
    refine ws_sub ?_
    walk_at "ww"
    refine .bad rfl b ?_
    show T' CP (.str nm) δ
    rw [hT]
    exact harv hsc k
  · walk_at "ww"
    refine ⟨_, _, _, res_of pr.o, rfl, ?_⟩
    refine cmp_notinD (hu_of hr) (res_of pr.d) rfl ?_
    rw [h]
    walk_at "ww"
    refine ws_raise e1 (hr.mono (by decide)) rfl ?_
    walk_at "ww"
    show T' CP (.str nm) δ
    rw [hT]
    exact harv hsc k
  · walk_at "ww"
    refine ws_raise e1 (hr.mono (by decide)) rfl ?_
    walk_at "ww"
    show T' CP .non δ
    rw [hT]
    exact harv hsc k
end
end K53
namespace K53
open PySem PySem.Spec PyProof.Rows L2 PV
local macro_rules | `(tactic| walk_at "w") => `(tactic| first
  | refine we_int ?_ | refine we_str ?_ | refine we_bl ?_ | refine we_non ?_
  | refine we_name rfl rfl ?_
  | refine wss_one ?_ | refine wss_cons ?_ | refine wss_nil ?_
  | refine ws_par rfl (by assumption) rfl rfl ?_ | refine ws_let (by assumption) rfl ?_ | refine ws_ret ?_ | refine ws_retN ?_ | refine ws_if ?_ | refine ws_pass ?_
  | refine wa_cons ?_ | refine wa_nil ?_
  | refine we_bin ?_ | refine wt_cmp ?_ | refine we_cmp ?_ | refine wt_not ?_ | refine we_not ?_ | refine wt_bool ?_ | refine we_un ?_
  | refine ww_and1 ?_ | refine ww_or1 ?_ | refine ww_and ?_ | refine ww_or ?_ | refine we_one ?_ | refine we_and ?_ | refine we_or ?_ | refine we_ifExp ?_
  | refine we_abs (by assumption) ?_ | refine we_len (by assumption) ?_ | refine we_isinstance (by assumption) ?_ | refine we_all (by assumption) ?_ | refine we_intT (by assumption) ?_ | refine we_boolT (by assumption) ?_ | refine we_strT (by assumption) ?_ | refine we_listT (by assumption) ?_ | refine we_tupleT (by assumption) ?_
  | refine we_intV (by assumption) ?_ | refine we_boolV (by assumption) ?_ | refine we_strV (by assumption) ?_ | refine we_listV (by assumption) ?_ | refine we_tupleV (by assumption) ?_ | refine we_dictV (by assumption) ?_
  | refine c_abs ?_ | refine c_int ?_ | refine c_intB ?_ | refine c_boolI ?_
  | refine bin_add ?_ | refine bin_sub ?_ | refine un_negD ?_ | refine bin_mod (by omega) ?_
  | refine cmp_lt ?_ | refine cmp_le ?_ | refine cmp_gt ?_ | refine cmp_ge ?_ | refine cmp_eqI ?_ | refine cmp_neI ?_ | refine cmp_eqS ?_ | refine cmp_neS ?_ | refine cmp_eqB ?_ | refine cmp_neB ?_ | refine cmp_isN ?_ | refine cmp_notN ?_
  | refine tru_bl ?_ | refine tru_int ?_ | refine tru_non ?_
  | refine c_isB rfl (by decide) ?_
  | refine we_fld (by assumption) ?_ | refine ⟨_, _, _, rfl, rfl, ?_⟩
  | refine we_fn (by assumption) (by first | assumption | exact Room.mono (by assumption) (by decide)) ?_ | refine we_nw (by assumption) (by first | assumption | exact Room.mono (by assumption) (by decide)) ?_
  | refine wt_val ?_
  | refine ⟨_, rfl, ?_⟩ | refine ⟨_, _, rfl, ?_⟩
  | walk_at "sp"
  | refine ⟨fun _ => ?_, fun z => absurd z (by decide)⟩ | refine ⟨fun z => absurd z (by decide), fun _ => ?_⟩
  )
local macro_rules | `(tactic| walk_at "ww") => `(tactic| repeat (walk_at "w"))
section
variable {P : Program} {w : World} {K : PySem.W.Frag} {mg : Str → Option Value} {base : Heap} {f C CI CN CP CQ : Addr} {fd : FuncData}
variable {γ : List Addr} {F : Hp} {v : V}
theorem rat_ref {a b : Int} (r : RT K γ F (rat C a b) v) : ∃ x dx, v = .ref x ∧ F x = some (.ins C dx [("top", .int a), ("bottom", .int b)]) := by
  have r : Rep K F (rat C a b) v := r
  rw [rat, Rep] at r
  obtain ⟨x, dx, xs, rfl, h1, _, h3⟩ := r
  rw [Reps] at h3
  obtain ⟨u, t, rfl, h4, h5⟩ := h3
  rw [Rep] at h4
  subst h4
  rw [Reps] at h5
  obtain ⟨u, t, rfl, h4, h5⟩ := h5
  rw [Rep] at h4
  subst h4
  rw [Reps] at h5
  subst h5
  exact ⟨x, dx, rfl, h1⟩
theorem rat_inj {a b p q : Int} (r : RT K γ F (rat C a b) v) (r' : RT K γ F (rat C p q) v) : a = p ∧ b = q := by
  obtain ⟨x, dx, rfl, h⟩ := rat_ref r
  obtain ⟨x', dx', e, h'⟩ := rat_ref r'
  cases e
  rw [h] at h'
  injection h' with h'
  injection h' with _ _ h'
  injection h' with h1 h2
  injection h2 with h2 _
  injection h1 with _ h1
  injection h2 with _ h2
  injection h1 with h1
  injection h2 with h2
  exact ⟨h1, h2⟩
theorem SpEq.monoT {ds : List D} {δ : Sto} : ∀ (R : RK) (T T' : XD), (∀ C g δ', T C g δ' → T' C g δ') → SpEq C K ds δ R T → SpEq C K ds δ R T' := fun R T T' _ h => by
  cases h with
  | int k => exact .int k
  | rat k => exact .rat k
  | no ht hn hk k => exact .no ht hn hk k
variable {Y : PX} {ρ : En} {δ : Sto}
theorem eqB_rr {a b p q : Int} (g : MtD Y.X.prog Y.X.w Y.X.K Y.X.mg Y.X.base 3 C "__eq__" ["self", "other"] [] (SpEq C Y.X.K)) (T : RatT Y.X.K mg C) : EqB Y 4 ρ (rat C a b) (rat C p q) δ (decide (a = p) && decide (b = q)) :=
  eqB_ins g T.eqT rfl (.same rfl) T.nfC (.rat ⟨rfl, rfl⟩) SpEq.monoT (fun γ F v r r' => by obtain ⟨rfl, rfl⟩ := rat_inj r r'; simp) (fun γ F H N v S r => by obtain ⟨x, dx, e, _⟩ := rat_ref r; exact ⟨x, e⟩)
theorem eqB_ri {a b p : Int} (g : MtD Y.X.prog Y.X.w Y.X.K Y.X.mg Y.X.base 3 C "__eq__" ["self", "other"] [] (SpEq C Y.X.K)) (T : RatT Y.X.K mg C) : EqB Y 4 ρ (rat C a b) (.int p) δ (decide (b = 1) && decide (a = p)) :=
  eqB_insF g T.eqT rfl (.ty (tyD_nm rfl).1) T.nfI (.int ⟨rfl, rfl⟩) SpEq.monoT rfl rfl
theorem eqB_ir {a b p : Int} (g : MtD Y.X.prog Y.X.w Y.X.K Y.X.mg Y.X.base 3 C "__eq__" ["self", "other"] [] (SpEq C Y.X.K)) (hs : PySem.W.subIn Y.X.K (.ref C) (.type "int") = some false) : EqB Y 4 ρ (.int p) (rat C a b) δ (decide (b = 1) && decide (a = p)) :=
  eqB_insR g hs rfl (.int ⟨rfl, rfl⟩) SpEq.monoT rfl
theorem eqB_ii {p q : Int} : EqB Y 4 ρ (.int p) (.int q) δ (decide (p = q)) := by
  have h := (eqB_flat (Y := Y) (ρ := ρ) (δ := δ) (da := .int p) (db := .int q) rfl rfl).mono (m := 4) (by decide)
  have e : eqV (.int p) (.int q) = decide (p = q) := by simp [eqV]; rfl
  rw [e] at h
  exact h
/-- equal as ratios -/
def ratEq : D → D → Bool
  | .ins _ _ [.int a, .int b], .ins _ _ [.int p, .int q] => decide (a = p) && decide (b = q)
  | _, _ => false
/-- four ratios -/
inductive Four (C : Addr) : List D → Prop
  | mk (p1 q1 p2 q2 p3 q3 p4 q4 : Int) (g1 : Good C (rat C p1 q1) p1 q1) (g2 : Good C (rat C p2 q2) p2 q2) (g3 : Good C (rat C p3 q3) p3 q3) (g4 : Good C (rat C p4 q4) p4 q4) : Four C [rat C p1 q1, rat C p2 q2, rat C p3 q3, rat C p4 q4]
inductive SpPEq (C CQ : Addr) (K : PySem.W.Frag) : DSp
  | two {δ : Sto} {R : RK} {T : XD} {j m j' m' : Nat} {rs rs' : List D} (pr : IsPr CQ δ j m rs) (pr' : IsPr CQ δ j' m' rs') (hm : m ≠ m') (f1 : Four C rs) (f2 : Four C rs') (k : R (.bl (dctB kn rs' ratEq kn rs)) δ) : SpPEq C CQ K [.al j, .al j'] δ R T
  | no {δ : Sto} {R : RK} {T : XD} {j : Nat} {i : Int} (k : R (.bl false) δ) : SpPEq C CQ K [.al j, .int i] δ R T
theorem ok_peq (F : Fun K "__eq__" "Prices.__eq__" s_Prices_eq f fd) (B : Blt mg) (T : RatT K mg C) (TQ : PrT K mg CQ) (g : MtD P w K mg base 3 C "__eq__" ["self", "other"] [] (SpEq C K)) : FnOk P w K mg base (L2.CX P w) 6 f fd ["self", "other"] (spOf K (SpPEq C CQ K)) := by
  refine fun_ok F sc_Prices_eq (fun ds δ R T h => by cases h <;> rfl) ?_
  rintro cdv A outer s H E Nf γ Fz T' tk po ds δ R T0 hT hr hsc h
  have b1 := B.isinstance_
  have fK := TQ.fK
  obtain @⟨_, _, _, j, m, j', m', rs, rs', pr, pr', hm, f1, f2, k⟩ | @⟨_, _, _, j, i, k⟩ := h
  · walk_at "ww"
    refine we_gl TQ.mgC ?_
    walk_at "ww"
    refine c_isO (res_of pr'.o) TQ.ins TQ.kOwn ?_
    walk_at "ww"
    refine ⟨_, _, _, res_of pr.o, rfl, ?_⟩
    walk_at "ww"
    refine ⟨_, _, _, res_of pr'.o, rfl, ?_⟩
    refine cmp_eqR (rcB_dct (n := 4) (f := ratEq) false pr.d pr'.d hm fun _ i k d e e1 e2 e3 N γ F => ?_) hr ?_
    · obtain ⟨p1, q1, p2, q2, p3, q3, p4, q4, _, _, _, _⟩ := f1
      obtain ⟨p1', q1', p2', q2', p3', q3', p4', q4', _, _, _, _⟩ := f2
      obtain ⟨a, b, rfl⟩ : ∃ a b, d = rat C a b := by
        rcases i with _ | _ | _ | _ | i
        · cases e2; exact ⟨_, _, rfl⟩
        · cases e2; exact ⟨_, _, rfl⟩
        · cases e2; exact ⟨_, _, rfl⟩
        · cases e2; exact ⟨_, _, rfl⟩
        · cases e2
      obtain ⟨p, q, rfl⟩ : ∃ a b, e = rat C a b := by
        rcases i with _ | _ | _ | _ | i
        · cases e1; cases e3; exact ⟨_, _, rfl⟩
        · cases e1; cases e3; exact ⟨_, _, rfl⟩
        · cases e1; cases e3; exact ⟨_, _, rfl⟩
        · cases e1; cases e3; exact ⟨_, _, rfl⟩
        · cases e1
      exact eqB_rr (Y := PX.lock _ N γ F) g T
    · refine harv hsc ?_
      simpa using k
  · walk_at "ww"
    refine we_gl TQ.mgC ?_
    walk_at "ww"
    refine c_isBO rfl TQ.kI ?_
    walk_at "ww"
    exact harv hsc k
/-- the new prices stand behind -/
abbrev newPr (CQ : Addr) (n : Nat) (rs : List D) : Sto := [some (.ins CQ ["known"] [.al (n + 1)]), some (.dct kn rs)]
theorem app_two {δ : Sto} {x y : Option D} : (δ ++ [x]).set δ.length y = δ ++ [y] := set_last
theorem new_pr {δ : Sto} {rs : List D} : (δ ++ [some (D.ins CQ [] [])]).set δ.length (some (D.ins CQ ["known"] [.al (δ ++ [some (D.ins CQ [] [])]).length])) ++ [some (D.dct kn rs)] = δ ++ newPr CQ δ.length rs := by
  rw [set_last, List.length_append, List.append_assoc]; rfl
theorem scoped_new {δ : Sto} {rs : List D} (sc : Scoped δ) (hn : noAl rs = true) : Scoped (δ ++ newPr CQ δ.length rs) := by
  have h := scoped_pr (CQ := CQ) (j := δ.length) (ks := kn) (scoped_app (o := .ins CQ [] []) sc rfl) hn
  rw [new_pr] at h
  exact h
theorem Four.noAl {rs : List D} (f : Four C rs) : noAl rs = true := by cases f; rfl
inductive SpCopied (C CQ : Addr) : DSp
  | mk {δ : Sto} {R : RK} {T : XD} {j m : Nat} {rs : List D} (pr : IsPr CQ δ j m rs) (f : Four C rs) (k : R (.al δ.length) (δ ++ newPr CQ δ.length rs)) : SpCopied C CQ [.al j] δ R T
abbrev pps : List Str := ["self", "lost", "surplus", "value", "junction"]
theorem ok_copied (F : Fun K "copied" "Prices.copied" s_Prices_copied f fd) (TQ : PrT K mg CQ) (g1 : PrD P w K mg base 2 CQ "lost" (SpGet CQ "lost")) (g2 : PrD P w K mg base 2 CQ "surplus" (SpGet CQ "surplus")) (g3 : PrD P w K mg base 2 CQ "value" (SpGet CQ "value")) (g4 : PrD P w K mg base 2 CQ "junction" (SpGet CQ "junction"))
    (g5 : MkK P w K mg base 9 CQ "Prices" ["lost", "surplus", "value", "junction"] (fun d ds => d :: ds) pps (SpPInit C CP CQ K)) : FnOk P w K mg base (L2.CX P w) 11 f fd ["self"] (spOf K (SpCopied C CQ)) := by
  refine fun_ok F sc_Prices_copied (fun ds δ R T h => by cases h <;> rfl) ?_
  rintro cdv A outer s H E Nf γ Fz T' tk po ds δ R T0 hT hr hsc h
  obtain @⟨_, _, _, j, m, rs, pr, ⟨p1, q1, p2, q2, p3, q3, p4, q4, h1, h2, h3, h4⟩, k⟩ := h
  have r3 : Room 3 _ := hr.mono (by decide)
  refine wss_one (ws_ret (we_newK g5 hr ?_))
  refine wk_cons (we_prop g1 r3 (we_name rfl rfl ⟨_, _, res_of pr.o, .mk pr rfl rfl ?_⟩))
  refine wk_cons (we_prop g2 r3 (we_name rfl rfl ⟨_, _, res_of pr.o, .mk pr rfl rfl ?_⟩))
  refine wk_cons (we_prop g3 r3 (we_name rfl rfl ⟨_, _, res_of pr.o, .mk pr rfl rfl ?_⟩))
  refine wk_cons (we_prop g4 r3 (we_name rfl rfl ⟨_, _, res_of pr.o, .mk pr rfl rfl ?_⟩))
  refine wk_nil ⟨rfl, .ok get_lastD h1 h2 h3 h4 ⟨rfl, ?_⟩⟩
  rw [new_pr]
  exact .here (by simp) (scoped_new hsc rfl) (fun i e => by cases e; simp) k
end
end K53
namespace K53
open PySem PySem.Spec PyProof.Rows L2 PV
local macro_rules | `(tactic| walk_at "w") => `(tactic| first
  | refine we_int ?_ | refine we_str ?_ | refine we_bl ?_ | refine we_non ?_
  | refine we_name rfl rfl ?_
  | refine wss_one ?_ | refine wss_cons ?_ | refine wss_nil ?_
  | refine ws_par rfl (by assumption) rfl rfl ?_ | refine ws_let (by assumption) rfl ?_ | refine ws_ret ?_ | refine ws_retN ?_ | refine ws_if ?_ | refine ws_pass ?_
  | refine wa_cons ?_ | refine wa_nil ?_
  | refine we_bin ?_ | refine wt_cmp ?_ | refine we_cmp ?_ | refine wt_not ?_ | refine we_not ?_ | refine wt_bool ?_ | refine we_un ?_
  | refine ww_and1 ?_ | refine ww_or1 ?_ | refine ww_and ?_ | refine ww_or ?_ | refine we_one ?_ | refine we_and ?_ | refine we_or ?_ | refine we_ifExp ?_
  | refine we_abs (by assumption) ?_ | refine we_len (by assumption) ?_ | refine we_isinstance (by assumption) ?_ | refine we_all (by assumption) ?_ | refine we_intT (by assumption) ?_ | refine we_boolT (by assumption) ?_ | refine we_strT (by assumption) ?_ | refine we_listT (by assumption) ?_ | refine we_tupleT (by assumption) ?_
  | refine we_intV (by assumption) ?_ | refine we_boolV (by assumption) ?_ | refine we_strV (by assumption) ?_ | refine we_listV (by assumption) ?_ | refine we_tupleV (by assumption) ?_ | refine we_dictV (by assumption) ?_
  | refine c_abs ?_ | refine c_int ?_ | refine c_intB ?_ | refine c_boolI ?_
  | refine bin_add ?_ | refine bin_sub ?_ | refine un_negD ?_ | refine bin_mod (by omega) ?_
  | refine cmp_lt ?_ | refine cmp_le ?_ | refine cmp_gt ?_ | refine cmp_ge ?_ | refine cmp_eqI ?_ | refine cmp_neI ?_ | refine cmp_eqS ?_ | refine cmp_neS ?_ | refine cmp_eqB ?_ | refine cmp_neB ?_ | refine cmp_isN ?_ | refine cmp_notN ?_
  | refine tru_bl ?_ | refine tru_int ?_ | refine tru_non ?_
  | refine c_isB rfl (by decide) ?_
  | refine we_fld (by assumption) ?_ | refine ⟨_, _, _, rfl, rfl, ?_⟩
  | refine we_fn (by assumption) (by first | assumption | exact Room.mono (by assumption) (by decide)) ?_ | refine we_nw (by assumption) (by first | assumption | exact Room.mono (by assumption) (by decide)) ?_
  | refine wt_val ?_
  | refine ⟨_, rfl, ?_⟩ | refine ⟨_, _, rfl, ?_⟩
  | walk_at "sp"
  | refine ⟨fun _ => ?_, fun z => absurd z (by decide)⟩ | refine ⟨fun z => absurd z (by decide), fun _ => ?_⟩
  )
local macro_rules | `(tactic| walk_at "ww") => `(tactic| repeat (walk_at "w"))
local macro_rules | `(tactic| walk_at "sp") => `(tactic| first
  | refine we_ix ?_ | refine ws_sub ?_ | refine ix_lst (res_of (by first | assumption | exact get_set (by assumption))) rfl ?_ | refine ix_lst rfl (by assumption) ?_
  | refine set_lst (by first | assumption | exact get_set (by assumption)) rfl ?_ | refine bin_fdiv (by assumption) (by assumption) ?_ | refine bin_mulR (by decide) ?_ | refine bin_powI (by decide) ?_ | refine c_lenL rfl ?_)
section
variable {P : Program} {w : World} {K : PySem.W.Frag} {mg : Str → Option Value} {base : Heap} {f C CI CN CP CQ : Addr} {fd : FuncData}
/-- the state of the draws -/
abbrev stD (zs : List Int) (a r s : Int) : D := .lst [.lst (zs.map D.int), .int a, .int r, .int s]
theorem noAl_ints {zs : List Int} : noAl (zs.map D.int) = true := by
  unfold noAl; rw [List.all_map]; exact List.all_eq_true.mpr fun _ _ => rfl
inductive SpStart : DSp
  | mk {δ : Sto} {R : RK} {T : XD} {d : D} {zs : List Int} (h : d = .lst (zs.map D.int)) (k : R (.al δ.length) (δ ++ [some (stD zs 0 0 7)])) : SpStart [d] δ R T
theorem ok_start (F : Fun K "_law_start" "_law_start" s__law_start f fd) (B : Blt mg) : FnOk P w K mg base (L2.CX P w) 1 f fd ["_law_script"] (spOf K SpStart) := by
  refine fun_ok F sc__law_start (fun ds δ R T h => by cases h; rfl) ?_
  rintro cdv A outer s H E Nf γ Fz T tk po ds δ R T0 hT hr hsc h
  obtain @⟨_, _, _, d, zs, rfl, k⟩ := h
  have b1 := B.list_
  refine wss_one (ws_ret (we_lstO ?_))
  walk_at "ww"
  refine c_listF (.inl rfl) noAl_ints ?_
  walk_at "ww"
  refine ⟨(by decide : 4 ≤ sizeLine), ?_⟩
  exact .here (by simp) (scoped_app hsc rfl) (fun i e => by cases e; simp) k
/-- a draw: some number below n, the state in some new way -/
inductive SpDraw : DSp
  | mk {δ : Sto} {R : RK} {T : XD} {j : Nat} {zs : List Int} {a r s n : Int} (hj : δ[j]? = some (some (stD zs a r s))) (ha : 0 ≤ a) (hn : 0 < n) (hb : n.natAbs < 2 ^ 200) (k : ∀ x a' r' s', 0 ≤ x → x < n → 0 ≤ a' → R (.int x) (δ.set j (some (stD zs a' r' s')))) : SpDraw [.al j, .int n] δ R T
theorem at_ints {zs : List Int} {a : Int} (h0 : 0 ≤ a) (h : a < (zs.map D.int).length) : ∃ z, atI (zs.map D.int) a = some (.int z) := by
  unfold atI ixN
  rw [if_pos h0, if_pos h]
  have : a.toNat < zs.length := by simp at h; omega
  exact ⟨zs[a.toNat], by simp [this]⟩
theorem ok_draw (F : Fun K "_law_draw" "_law_draw" s__law_draw f fd) (B : Blt mg) : FnOk P w K mg base (L2.CX P w) 1 f fd ["_law_state", "_law_many"] (spOf K SpDraw) := by
  refine fun_ok F sc__law_draw (fun ds δ R T h => by cases h; rfl) ?_
  rintro cdv A outer s H E Nf γ Fz T tk po ds δ R T0 hT hr hsc h
  obtain @⟨_, _, _, j, zs, a, r, sd, n, hj, ha, hn, hb, k⟩ := h
  have nd := sc__law_draw.nd
  have b1 := B.int_
  have b2 := B.len_
  have hb9 : n.natAbs < 2 ^ 9000 := Nat.lt_of_lt_of_le hb (Nat.pow_le_pow_right (by decide) (by decide))
  have hmod : ∀ x : Int, 0 ≤ x % n ∧ x % n < n := fun x => ⟨Int.emod_nonneg _ (by omega), Int.emod_lt_of_pos _ hn⟩
  have rest : ∀ c : Int, WSs ⟨bodyX P w K mg base n__law_draw "_law_draw" (defScope s__law_draw) f cdv A outer s H E, γ, Fz, Nf, fun C g _ δ => T C g δ, tk, po⟩ ((defBody s__law_draw).drop 2) [some (.al j), some (.int n), none, some (.int c)] δ ⟨fun _ δ' => Harv δ.length R .non δ', Harv δ.length R, fun _ _ => False, fun _ _ => False⟩ := by
    intro c
    walk_at "ww"
    refine ⟨fun h2 => ?_, fun h2 => ?_⟩
    · walk_at "ww"
      rw [List.set_set]
      exact harvS (by simp) (scoped_set hsc rfl) (k _ (a + 1) _ sd (hmod _).1 (hmod _).2 (by omega))
    · walk_at "ww"
      rw [List.set_set]
      walk_at "ww"
      exact harvS (by simp) (scoped_set hsc rfl) (k _ (a + 1) _ _ (hmod _).1 (hmod _).2 (by omega))
  walk_at "ww"
  refine ⟨fun h1 => ?_, fun h1 => ?_⟩
  · walk_at "ww"
    exact harvS (by simp) (scoped_set hsc rfl) (k _ a _ sd (hmod _).1 (hmod _).2 ha)
  · walk_at "ww"
    refine ⟨fun h2 => ?_, fun h2 => ?_⟩
    · obtain ⟨z, hz⟩ := at_ints ha (of_decide_eq_true h2)
      have rz := rest z
      repeat (first | exact rz | walk_at "w")
    · exact we_int (rest 0)
end
end K53
namespace K53
open PySem PySem.Spec PyProof.Rows L2 PV
local macro_rules | `(tactic| walk_at "w") => `(tactic| first
  | refine we_int ?_ | refine we_str ?_ | refine we_bl ?_ | refine we_non ?_
  | refine we_name rfl rfl ?_
  | refine wss_one ?_ | refine wss_cons ?_ | refine wss_nil ?_
  | refine ws_par rfl (by assumption) rfl rfl ?_ | refine ws_let (by assumption) rfl ?_ | refine ws_ret ?_ | refine ws_retN ?_ | refine ws_if ?_ | refine ws_pass ?_
  | refine wa_cons ?_ | refine wa_nil ?_
  | refine we_bin ?_ | refine wt_cmp ?_ | refine we_cmp ?_ | refine wt_not ?_ | refine we_not ?_ | refine wt_bool ?_ | refine we_un ?_
  | refine ww_and1 ?_ | refine ww_or1 ?_ | refine ww_and ?_ | refine ww_or ?_ | refine we_one ?_ | refine we_and ?_ | refine we_or ?_ | refine we_ifExp ?_
  | refine we_abs (by assumption) ?_ | refine we_len (by assumption) ?_ | refine we_isinstance (by assumption) ?_ | refine we_all (by assumption) ?_ | refine we_intT (by assumption) ?_ | refine we_boolT (by assumption) ?_ | refine we_strT (by assumption) ?_ | refine we_listT (by assumption) ?_ | refine we_tupleT (by assumption) ?_
  | refine we_intV (by assumption) ?_ | refine we_boolV (by assumption) ?_ | refine we_strV (by assumption) ?_ | refine we_listV (by assumption) ?_ | refine we_tupleV (by assumption) ?_ | refine we_dictV (by assumption) ?_
  | refine c_abs ?_ | refine c_int ?_ | refine c_intB ?_ | refine c_boolI ?_
  | refine bin_add ?_ | refine bin_sub ?_ | refine un_negD ?_ | refine bin_mod (by omega) ?_
  | refine cmp_lt ?_ | refine cmp_le ?_ | refine cmp_gt ?_ | refine cmp_ge ?_ | refine cmp_eqI ?_ | refine cmp_neI ?_ | refine cmp_eqS ?_ | refine cmp_neS ?_ | refine cmp_eqB ?_ | refine cmp_neB ?_ | refine cmp_isN ?_ | refine cmp_notN ?_
  | refine tru_bl ?_ | refine tru_int ?_ | refine tru_non ?_
  | refine c_isB rfl (by decide) ?_
  | refine we_fld (by assumption) ?_ | refine ⟨_, _, _, rfl, rfl, ?_⟩
  | refine we_fn (by assumption) (by first | assumption | exact Room.mono (by assumption) (by decide)) ?_ | refine we_nw (by assumption) (by first | assumption | exact Room.mono (by assumption) (by decide)) ?_
  | refine wt_val ?_
  | refine ⟨_, rfl, ?_⟩ | refine ⟨_, _, rfl, ?_⟩
  | walk_at "sp"
  | refine ⟨fun _ => ?_, fun z => absurd z (by decide)⟩ | refine ⟨fun z => absurd z (by decide), fun _ => ?_⟩
  )
local macro_rules | `(tactic| walk_at "ww") => `(tactic| repeat (walk_at "w"))
local macro_rules | `(tactic| walk_at "sp") => `(tactic| first
  | refine we_ix ?_ | refine bin_powI (by decide) ?_)
section
variable {P : Program} {w : World} {K : PySem.W.Frag} {mg : Str → Option Value} {base : Heap} {f C CI CN CP CQ : Addr} {fd : FuncData}
/-- low terms of a ratio not below 1 are a price -/
theorem low_good {p q : Int} (hq : 0 < q) (hp : q ≤ p) (bp : p.natAbs < 2 ^ 200) (bq : q.natAbs < 2 ^ 200) : Good C (rlow C p q) (lowT p q) (lowB p q) := by
  have hg : 0 < Int.gcd p q := Int.gcd_pos_of_ne_zero_right p (by omega)
  have hT : lowT p q = p / (Int.gcd p q : Int) := by unfold lowT sgn; rw [if_neg (by omega), Int.one_mul]
  have hB : lowB p q = q / (Int.gcd p q : Int) := by unfold lowB sgn; rw [if_neg (by omega), Int.one_mul]
  have lift : ∀ x : Int, x.natAbs < 2 ^ 200 → (x / (Int.gcd p q : Int)).natAbs < 2 ^ 8000 := fun x hx => by
    have h1 : (x / (Int.gcd p q : Int)).natAbs ≤ x.natAbs := Int.natAbs_ediv_le_natAbs _ _
    exact Nat.lt_of_le_of_lt h1 (Nat.lt_of_lt_of_le hx (Nat.pow_le_pow_right (by decide) (by decide)))
  refine ⟨.r _ _, ?_, by rw [hT]; exact lift p bp, by rw [hB]; exact lift q bq⟩
  rw [hT, hB]
  have := Int.ediv_le_ediv (c := (Int.gcd p q : Int)) (by omega) hp
  omega
theorem low_bad {p q : Int} (hq : 0 < q) (hp : p < q) (bp : p.natAbs < 2 ^ 200) (bq : q.natAbs < 2 ^ 200) : Bad C K (rlow C p q) := by
  have hg : 0 < Int.gcd p q := Int.gcd_pos_of_ne_zero_right p (by omega)
  have hT : lowT p q = p / (Int.gcd p q : Int) := by unfold lowT sgn; rw [if_neg (by omega), Int.one_mul]
  have hB : lowB p q = q / (Int.gcd p q : Int) := by unfold lowB sgn; rw [if_neg (by omega), Int.one_mul]
  have lift : ∀ x : Int, x.natAbs < 2 ^ 200 → (x / (Int.gcd p q : Int)).natAbs < 2 ^ 8000 := fun x hx => by
    have h1 : (x / (Int.gcd p q : Int)).natAbs ≤ x.natAbs := Int.natAbs_ediv_le_natAbs _ _
    exact Nat.lt_of_le_of_lt h1 (Nat.lt_of_lt_of_le hx (Nat.pow_le_pow_right (by decide) (by decide)))
  refine .low (.r _ _) ?_ (by rw [hT]; exact lift p bp) (by rw [hB]; exact lift q bq)
  rw [hT, hB]
  have d1 : (Int.gcd p q : Int) ∣ p := Int.gcd_dvd_left ..
  have d2 : (Int.gcd p q : Int) ∣ q := Int.gcd_dvd_right ..
  have e1 := Int.ediv_mul_cancel d1
  have e2 := Int.ediv_mul_cancel d2
  rw [Int.mul_one, Int.one_mul]
  refine Int.lt_of_not_ge fun z => ?_
  have := Int.mul_le_mul_of_nonneg_right z (Int.natCast_nonneg (Int.gcd p q))
  omega
/-- a price drawn -/
inductive SpLPrice (C : Addr) : DSp
  | mk {δ : Sto} {R : RK} {T : XD} {j : Nat} {zs : List Int} {a r s : Int} (hj : δ[j]? = some (some (stD zs a r s))) (ha : 0 ≤ a) (k : ∀ d p q a' r' s', Good C d p q → 0 ≤ a' → R d (δ.set j (some (stD zs a' r' s')))) : SpLPrice C [.al j] δ R T
theorem ok_lprice (F : Fun K "_law_price" "_law_price" s__law_price f fd) (g1 : FnD P w K mg base 1 "_law_draw" ["_law_state", "_law_many"] [] SpDraw) (g2 : NwD P w K mg base 4 C "Ratio" (SpRat C CI CN K)) : FnOk P w K mg base (L2.CX P w) 5 f fd ["_law_state"] (spOf K (SpLPrice C)) := by
  refine fun_ok F sc__law_price (fun ds δ R T h => by cases h; rfl) ?_
  rintro cdv A outer s H E Nf γ Fz T tk po ds δ R T0 hT hr hsc h
  obtain @⟨_, _, _, j, zs, a, r, sd, hj, ha, k⟩ := h
  have nd := sc__law_price.nd
  have r1 : Room 1 _ := hr.mono (by decide)
  walk_at "ww"
  refine .mk hj ha (by decide) (by decide) fun x a1 s1 t1 hx0 hx1 ha1 => ?_
  walk_at "ww"
  refine .mk (get_set hj) ha1 (by decide) (by decide) fun x2 a2 s2 t2 hy0 hy1 ha2 => ?_
  rw [List.set_set]
  walk_at "ww"
  have hx2 : x < 10 ^ 30 := hx1
  have bx : ∀ y : Int, 0 ≤ y → y < 10 ^ 30 + 10 → y.natAbs < 2 ^ 200 := fun y h0 h1 => by
    have : (10 : Int) ^ 30 + 10 < 2 ^ 200 := by decide
    omega
  have lift : ∀ y : Nat, y < 2 ^ 200 → y < 2 ^ 8000 := fun y h => Nat.lt_of_lt_of_le h (Nat.pow_le_pow_right (by decide) (by decide))
  refine ⟨fun h2 => ?_, fun h2 => ?_⟩
  · walk_at "ww"
    refine .mk (get_set hj) ha2 (by decide) (by decide) fun x3 a3 s3 t3 hz0 hz1 ha3 => ?_
    rw [List.set_set]
    walk_at "ww"
    refine .two (by omega) (lift _ (bx _ (by omega) (by omega))) (lift _ (bx _ (by omega) (by omega))) ?_
    exact harvS (by simp) (scoped_set hsc rfl) (k _ _ _ _ _ _ (low_good (by omega) (by omega) (bx _ (by omega) (by omega)) (bx _ (by omega) (by omega))) ha3)
  · walk_at "ww"
    exact harvS (by simp) (scoped_set hsc rfl) (k _ (1 + x) 1 _ _ _ ⟨.i _, by omega, lift _ (bx _ (by omega) (by omega)), lift _ (bx _ (by omega) (by omega))⟩ ha2)
end
end K53
namespace K53
open PySem PySem.Spec PyProof.Rows L2 PV
local macro_rules | `(tactic| walk_at "w") => `(tactic| first
  | refine we_int ?_ | refine we_str ?_ | refine we_bl ?_ | refine we_non ?_
  | refine we_name rfl rfl ?_
  | refine wss_one ?_ | refine wss_cons ?_ | refine wss_nil ?_
  | refine ws_par rfl (by assumption) rfl rfl ?_ | refine ws_let (by assumption) rfl ?_ | refine ws_ret ?_ | refine ws_retN ?_ | refine ws_if ?_ | refine ws_pass ?_
  | refine wa_cons ?_ | refine wa_nil ?_
  | refine we_bin ?_ | refine wt_cmp ?_ | refine we_cmp ?_ | refine wt_not ?_ | refine we_not ?_ | refine wt_bool ?_ | refine we_un ?_
  | refine ww_and1 ?_ | refine ww_or1 ?_ | refine ww_and ?_ | refine ww_or ?_ | refine we_one ?_ | refine we_and ?_ | refine we_or ?_ | refine we_ifExp ?_
  | refine we_abs (by assumption) ?_ | refine we_len (by assumption) ?_ | refine we_isinstance (by assumption) ?_ | refine we_all (by assumption) ?_ | refine we_intT (by assumption) ?_ | refine we_boolT (by assumption) ?_ | refine we_strT (by assumption) ?_ | refine we_listT (by assumption) ?_ | refine we_tupleT (by assumption) ?_
  | refine we_intV (by assumption) ?_ | refine we_boolV (by assumption) ?_ | refine we_strV (by assumption) ?_ | refine we_listV (by assumption) ?_ | refine we_tupleV (by assumption) ?_ | refine we_dictV (by assumption) ?_
  | refine c_abs ?_ | refine c_int ?_ | refine c_intB ?_ | refine c_boolI ?_
  | refine bin_add ?_ | refine bin_sub ?_ | refine un_negD ?_ | refine bin_mod (by omega) ?_
  | refine cmp_lt ?_ | refine cmp_le ?_ | refine cmp_gt ?_ | refine cmp_ge ?_ | refine cmp_eqI ?_ | refine cmp_neI ?_ | refine cmp_eqS ?_ | refine cmp_neS ?_ | refine cmp_eqB ?_ | refine cmp_neB ?_ | refine cmp_isN ?_ | refine cmp_notN ?_
  | refine tru_bl ?_ | refine tru_int ?_ | refine tru_non ?_
  | refine c_isB rfl (by decide) ?_
  | refine we_fld (by assumption) ?_ | refine ⟨_, _, _, rfl, rfl, ?_⟩
  | refine we_fn (by assumption) (by first | assumption | exact Room.mono (by assumption) (by decide)) ?_ | refine we_nw (by assumption) (by first | assumption | exact Room.mono (by assumption) (by decide)) ?_
  | refine wt_val ?_
  | refine ⟨_, rfl, ?_⟩ | refine ⟨_, _, rfl, ?_⟩
  | walk_at "sp"
  | refine ⟨fun _ => ?_, fun z => absurd z (by decide)⟩ | refine ⟨fun z => absurd z (by decide), fun _ => ?_⟩
  )
local macro_rules | `(tactic| walk_at "ww") => `(tactic| repeat (walk_at "w"))
local macro_rules | `(tactic| walk_at "sp") => `(tactic| first
  | refine we_ix ?_ | refine bin_powI (by decide) ?_)
section
variable {P : Program} {w : World} {K : PySem.W.Frag} {mg : Str → Option Value} {base : Heap} {f C CI CN CP CQ : Addr} {fd : FuncData}
/-- no price, drawn -/
inductive SpLOdd (C : Addr) (K : PySem.W.Frag) : DSp
  | mk {δ : Sto} {R : RK} {T : XD} {j : Nat} {zs : List Int} {a r s : Int} (hj : δ[j]? = some (some (stD zs a r s))) (ha : 0 ≤ a) (k : ∀ d a' r' s', Bad C K d → 0 ≤ a' → R d (δ.set j (some (stD zs a' r' s')))) : SpLOdd C K [.al j] δ R T
theorem ok_lodd (F : Fun K "_law_odd" "_law_odd" s__law_odd f fd) (g1 : FnD P w K mg base 1 "_law_draw" ["_law_state", "_law_many"] [] SpDraw) (g2 : NwD P w K mg base 4 C "Ratio" (SpRat C CI CN K)) : FnOk P w K mg base (L2.CX P w) 5 f fd ["_law_state"] (spOf K (SpLOdd C K)) := by
  refine fun_ok F sc__law_odd (fun ds δ R T h => by cases h; rfl) ?_
  rintro cdv A outer s H E Nf γ Fz T tk po ds δ R T0 hT hr hsc h
  obtain @⟨_, _, _, j, zs, a, r, sd, hj, ha, k⟩ := h
  have nd := sc__law_odd.nd
  have r1 : Room 1 _ := hr.mono (by decide)
  walk_at "ww"
  refine .mk hj ha (by decide) (by decide) fun x a1 s1 t1 hx0 hx1 ha1 => ?_
  have hx2 : x < 10 ^ 9 := hx1
  have bx : ∀ y : Int, -(10 ^ 9 + 10) < y → y < 10 ^ 9 + 10 → y.natAbs < 2 ^ 200 := fun y h0 h1 => by
    have : (10 : Int) ^ 9 + 10 < 2 ^ 200 := by decide
    omega
  have lift : ∀ y : Nat, y < 2 ^ 200 → y < 2 ^ 8000 := fun y h => Nat.lt_of_lt_of_le h (Nat.pow_le_pow_right (by decide) (by decide))
  walk_at "ww"
  refine we_lst ?_
  walk_at "ww"
  refine .two (by omega) (lift _ (bx _ (by omega) (by omega))) (lift _ (bx _ (by omega) (by omega))) ?_
  walk_at "ww"
  refine .one (lift _ (bx _ (by omega) (by omega))) ?_
  walk_at "ww"
  refine ⟨(by decide : 7 ≤ sizeLine), rfl, ?_⟩
  walk_at "ww"
  refine .mk (get_set hj) ha1 (by decide) (by decide) fun x2 a2 s2 t2 hy0 hy1 ha2 => ?_
  rw [List.set_set]
  have bad : ∀ d : D, Bad C K d → Harv δ.length R d (δ.set j (some (stD zs a2 s2 t2))) := fun d b => harvS (by simp) (scoped_set hsc rfl) (k d a2 s2 t2 b ha2) b.isAl
  have c7 : x2 = 0 ∨ x2 = 1 ∨ x2 = 2 ∨ x2 = 3 ∨ x2 = 4 ∨ x2 = 5 ∨ x2 = 6 := by omega
  rcases c7 with rfl | rfl | rfl | rfl | rfl | rfl | rfl
  · exact ix_lst rfl rfl (bad _ (low_bad (by omega) (by omega) (bx _ (by omega) (by omega)) (bx _ (by omega) (by omega))))
  · exact ix_lst rfl rfl (bad _ (.low (.i _) (by decide) (lift _ (bx _ (by omega) (by omega))) (lift _ (bx 1 (by omega) (by omega)))))
  · exact ix_lst rfl rfl (bad _ (.low (.i _) (by omega) (lift _ (bx _ (by omega) (by omega))) (lift _ (bx 1 (by omega) (by omega)))))
  · exact ix_lst rfl rfl (bad _ (.bl _))
  · exact ix_lst rfl rfl (bad _ .non)
  · exact ix_lst rfl rfl (bad _ (.str _))
  · exact ix_lst rfl rfl (bad _ (.low (.r _ _) (by omega) (lift _ (bx _ (by omega) (by omega))) (lift _ (bx 1 (by omega) (by omega)))))
/-- the four prices told -/
inductive SpTold (C CQ : Addr) : DSp
  | mk {δ : Sto} {R : RK} {T : XD} {j m : Nat} {rs : List D} (pr : IsPr CQ δ j m rs) (f : Four C rs) (k : R (.lst rs) δ) : SpTold C CQ [.al j] δ R T
theorem ok_told (F : Fun K "_law_told" "_law_told" s__law_told f fd) (g1 : PrD P w K mg base 2 CQ "lost" (SpGet CQ "lost")) (g2 : PrD P w K mg base 2 CQ "surplus" (SpGet CQ "surplus")) (g3 : PrD P w K mg base 2 CQ "value" (SpGet CQ "value")) (g4 : PrD P w K mg base 2 CQ "junction" (SpGet CQ "junction")) : FnOk P w K mg base (L2.CX P w) 4 f fd ["_law_prices"] (spOf K (SpTold C CQ)) := by
  refine fun_ok F sc__law_told (fun ds δ R T h => by cases h; rfl) ?_
  rintro cdv A outer s H E Nf γ Fz T tk po ds δ R T0 hT hr hsc h
  obtain @⟨_, _, _, j, m, rs, pr, ⟨p1, q1, p2, q2, p3, q3, p4, q4, h1, h2, h3, h4⟩, k⟩ := h
  refine wss_one (ws_ret (we_lst ?_))
  refine wa_cons (we_prop g1 hr (we_name rfl rfl ⟨_, _, res_of pr.o, .mk pr rfl rfl ?_⟩))
  refine wa_cons (we_prop g2 hr (we_name rfl rfl ⟨_, _, res_of pr.o, .mk pr rfl rfl ?_⟩))
  refine wa_cons (we_prop g3 hr (we_name rfl rfl ⟨_, _, res_of pr.o, .mk pr rfl rfl ?_⟩))
  refine wa_cons (we_prop g4 hr (we_name rfl rfl ⟨_, _, res_of pr.o, .mk pr rfl rfl ?_⟩))
  exact wa_nil ⟨(by decide : 4 ≤ sizeLine), rfl, harv hsc k⟩
end
end K53
namespace K53
open PySem PySem.Spec PyProof.Rows L2 PV
local macro_rules | `(tactic| walk_at "w") => `(tactic| first
  | refine we_int ?_ | refine we_str ?_ | refine we_bl ?_ | refine we_non ?_
  | refine we_name rfl rfl ?_
  | refine wss_one ?_ | refine wss_cons ?_ | refine wss_nil ?_
  | refine ws_par rfl (by assumption) rfl rfl ?_ | refine ws_let (by assumption) rfl ?_ | refine ws_ret ?_ | refine ws_retN ?_ | refine ws_if ?_ | refine ws_pass ?_
  | refine wa_cons ?_ | refine wa_nil ?_
  | refine we_bin ?_ | refine wt_cmp ?_ | refine we_cmp ?_ | refine wt_not ?_ | refine we_not ?_ | refine wt_bool ?_ | refine we_un ?_
  | refine ww_and1 ?_ | refine ww_or1 ?_ | refine ww_and ?_ | refine ww_or ?_ | refine we_one ?_ | refine we_and ?_ | refine we_or ?_ | refine we_ifExp ?_
  | refine we_abs (by assumption) ?_ | refine we_len (by assumption) ?_ | refine we_isinstance (by assumption) ?_ | refine we_all (by assumption) ?_ | refine we_intT (by assumption) ?_ | refine we_boolT (by assumption) ?_ | refine we_strT (by assumption) ?_ | refine we_listT (by assumption) ?_ | refine we_tupleT (by assumption) ?_
  | refine we_intV (by assumption) ?_ | refine we_boolV (by assumption) ?_ | refine we_strV (by assumption) ?_ | refine we_listV (by assumption) ?_ | refine we_tupleV (by assumption) ?_ | refine we_dictV (by assumption) ?_
  | refine c_abs ?_ | refine c_int ?_ | refine c_intB ?_ | refine c_boolI ?_
  | refine bin_add ?_ | refine bin_sub ?_ | refine un_negD ?_ | refine bin_mod (by omega) ?_
  | refine cmp_lt ?_ | refine cmp_le ?_ | refine cmp_gt ?_ | refine cmp_ge ?_ | refine cmp_eqI ?_ | refine cmp_neI ?_ | refine cmp_eqS ?_ | refine cmp_neS ?_ | refine cmp_eqB ?_ | refine cmp_neB ?_ | refine cmp_isN ?_ | refine cmp_notN ?_
  | refine tru_bl ?_ | refine tru_int ?_ | refine tru_non ?_
  | refine c_isB rfl (by decide) ?_
  | refine we_fld (by assumption) ?_ | refine ⟨_, _, _, rfl, rfl, ?_⟩
  | refine we_fn (by assumption) (by first | assumption | exact Room.mono (by assumption) (by decide)) ?_ | refine we_nw (by assumption) (by first | assumption | exact Room.mono (by assumption) (by decide)) ?_
  | refine wt_val ?_
  | refine ⟨_, rfl, ?_⟩ | refine ⟨_, _, rfl, ?_⟩
  | walk_at "sp"
  | refine ⟨fun _ => ?_, fun z => absurd z (by decide)⟩ | refine ⟨fun z => absurd z (by decide), fun _ => ?_⟩
  )
local macro_rules | `(tactic| walk_at "ww") => `(tactic| repeat (walk_at "w"))
local macro_rules | `(tactic| walk_at "sp") => `(tactic| first
  | refine we_ix ?_ | refine bin_powI (by decide) ?_)
section
variable {P : Program} {w : World} {K : PySem.W.Frag} {mg : Str → Option Value} {base : Heap} {f C CI CN CP CQ CW : Addr} {fd : FuncData}
/-- what the text says of the error InvalidPrices -/
structure EpT (K : PySem.W.Frag) (mg : Str → Option Value) (CP CW : Addr) : Prop where
  mgW : mg "WireError" = some (.ref CW)
  ec : ExcC K CP
  kW : PySem.W.kitOne K (.ref CP) (.ref CW) = some true
  ex : PySem.W.exmOne K (.ref CP) (.ref CP) = some true
inductive SpUnch (C CP CQ : Addr) (K : PySem.W.Frag) : DSp
  | bad {δ : Sto} {R : RK} {T : XD} {j m : Nat} {rs : List D} {nm : Str} {d : D} (pr : IsPr CQ δ j m rs) (h : (lookK (.inr nm) kn rs).isSome = true) (b : Bad C K d) (k : R (.bl true) δ) : SpUnch C CP CQ K [.al j, .str nm, d] δ R T
  | no {δ : Sto} {R : RK} {T : XD} {j m : Nat} {rs : List D} {nm : Str} {d : D} (pr : IsPr CQ δ j m rs) (h : (lookK (.inr nm) kn rs).isSome = false) (k : R (.bl true) δ) : SpUnch C CP CQ K [.al j, .str nm, d] δ R T
  | non {δ : Sto} {R : RK} {T : XD} {j m : Nat} {rs : List D} {d : D} (pr : IsPr CQ δ j m rs) (k : R (.bl true) δ) : SpUnch C CP CQ K [.al j, .non, d] δ R T
theorem ok_unch (F : Fun K "_law_unchanged" "_law_unchanged" s__law_unchanged f fd) (B : Blt mg) (ET : EpT K mg CP CW) (g1 : MtD P w K mg base 9 CQ "change" ["self", "name", "price"] [] (SpChange C CP CQ K)) (e1 : ErrD P w K mg base "InvalidPrices" CP) : FnOk P w K mg base (L2.CX P w) 10 f fd ["_law_prices", "_law_name", "_law_thing"] (spOf K (SpUnch C CP CQ K)) := by
  refine fun_ok F sc__law_unchanged (fun ds δ R T h => by cases h <;> rfl) ?_
  rintro cdv A outer s H E Nf γ Fz T' tk po ds δ R T0 hT hr hsc h
  have nd := sc__law_unchanged.nd
  have b1 := B.isinstance_
  obtain ⟨j, m, rs, nm, d, e, pr, hR, hx, hc⟩ : ∃ j m rs nm d, ds = [.al j, nm, d] ∧ IsPr CQ δ j m rs ∧ R (.bl true) δ ∧ (nm = .non ∨ ∃ x, nm = .str x) ∧ ∀ R' T', T' CP nm δ → SpChange C CP CQ K [.al j, nm, d] δ R' T' := by
    cases h with
    | bad pr h b k => exact ⟨_, _, _, _, _, rfl, pr, k, .inr ⟨_, rfl⟩, fun R' T' z => .bad pr h b z⟩
    | no pr h k => exact ⟨_, _, _, _, _, rfl, pr, k, .inr ⟨_, rfl⟩, fun R' T' z => .no pr h z⟩
    | non pr k => exact ⟨_, _, _, _, _, rfl, pr, k, .inl rfl, fun R' T' z => .non z⟩
  subst e
  refine wss_cons (ws_try (i := 3) rfl rfl nd rfl rfl ⟨rfl, by decide, .inl e1.gC⟩ fun pn xe γ2 F2 tk2 po2 => ?_)
  refine wss_one (ws_expr (we_mt g1 hr (we_name rfl rfl ⟨_, _, res_of pr.o, rfl, ?_⟩)))
  walk_at "ww"
  refine hc _ _ ⟨true, ET.ex, fun _ ad oe pn3 γ3 F3 c => ?_, fun z => nomatch z⟩
  refine wss_one (ws_ret ?_)
  walk_at "ww"
  refine we_given c e1.X ?_
  refine we_name rfl rfl ⟨rfl, ?_⟩
  walk_at "ww"
  have fin : ∀ {Q : D → Sto → Prop}, Q (.bl true) δ → CmpD (suiteX ⟨bodyX P w K mg base n__law_unchanged "_law_unchanged" (defScope s__law_unchanged) f cdv A outer s H E, γ, Fz, Nf, fun C g _ δ => T' C g δ, tk, po⟩ ad oe pn3 γ3 F3) ([some (.al j), some nm, some d, some (.gl ad)] : En) .Eq nm nm δ Q := by
    intro Q q
    rcases hx with rfl | ⟨x, rfl⟩
    · exact cmp_eqN q
    · exact cmp_eqS (by simpa using q)
  refine fin ?_
  walk_at "ww"
  refine we_gl ET.mgW ?_
  walk_at "ww"
  refine c_isE c ET.ec ET.kW ?_
  exact harv hsc hR
end
end K53
namespace K53
open PySem PySem.Spec PyProof.Rows L2 PV
local macro_rules | `(tactic| walk_at "w") => `(tactic| first
  | refine we_int ?_ | refine we_str ?_ | refine we_bl ?_ | refine we_non ?_
  | refine we_name rfl rfl ?_
  | refine wss_one ?_ | refine wss_cons ?_ | refine wss_nil ?_
  | refine ws_par rfl (by assumption) rfl rfl ?_ | refine ws_let (by assumption) rfl ?_ | refine ws_ret ?_ | refine ws_retN ?_ | refine ws_if ?_ | refine ws_pass ?_
  | refine wa_cons ?_ | refine wa_nil ?_
  | refine we_bin ?_ | refine wt_cmp ?_ | refine we_cmp ?_ | refine wt_not ?_ | refine we_not ?_ | refine wt_bool ?_ | refine we_un ?_
  | refine ww_and1 ?_ | refine ww_or1 ?_ | refine ww_and ?_ | refine ww_or ?_ | refine we_one ?_ | refine we_and ?_ | refine we_or ?_ | refine we_ifExp ?_
  | refine we_abs (by assumption) ?_ | refine we_len (by assumption) ?_ | refine we_isinstance (by assumption) ?_ | refine we_all (by assumption) ?_ | refine we_intT (by assumption) ?_ | refine we_boolT (by assumption) ?_ | refine we_strT (by assumption) ?_ | refine we_listT (by assumption) ?_ | refine we_tupleT (by assumption) ?_
  | refine we_intV (by assumption) ?_ | refine we_boolV (by assumption) ?_ | refine we_strV (by assumption) ?_ | refine we_listV (by assumption) ?_ | refine we_tupleV (by assumption) ?_ | refine we_dictV (by assumption) ?_
  | refine c_abs ?_ | refine c_int ?_ | refine c_intB ?_ | refine c_boolI ?_
  | refine bin_add ?_ | refine bin_sub ?_ | refine un_negD ?_ | refine bin_mod (by omega) ?_
  | refine cmp_lt ?_ | refine cmp_le ?_ | refine cmp_gt ?_ | refine cmp_ge ?_ | refine cmp_eqI ?_ | refine cmp_neI ?_ | refine cmp_eqS ?_ | refine cmp_neS ?_ | refine cmp_eqB ?_ | refine cmp_neB ?_ | refine cmp_isN ?_ | refine cmp_notN ?_
  | refine tru_bl ?_ | refine tru_int ?_ | refine tru_non ?_
  | refine c_isB rfl (by decide) ?_
  | refine we_fld (by assumption) ?_ | refine ⟨_, _, _, rfl, rfl, ?_⟩
  | refine we_fn (by assumption) (by first | assumption | exact Room.mono (by assumption) (by decide)) ?_ | refine we_nw (by assumption) (by first | assumption | exact Room.mono (by assumption) (by decide)) ?_
  | refine wt_val ?_
  | refine ⟨_, rfl, ?_⟩ | refine ⟨_, _, rfl, ?_⟩
  | walk_at "sp"
  | refine ⟨fun _ => ?_, fun z => absurd z (by decide)⟩ | refine ⟨fun z => absurd z (by decide), fun _ => ?_⟩
  )
local macro_rules | `(tactic| walk_at "ww") => `(tactic| repeat (walk_at "w"))
local macro_rules | `(tactic| walk_at "sp") => `(tactic| first
  | refine we_ix ?_ | refine bin_powI (by decide) ?_ | refine ix_lst rfl rfl ?_)
section
variable {P : Program} {w : World} {K : PySem.W.Frag} {mg : Str → Option Value} {base : Heap} {f C CI CN CP CQ CW : Addr} {fd : FuncData}
inductive SpUnmade (C : Addr) (K : PySem.W.Frag) : DSp
  | mk {δ : Sto} {R : RK} {T : XD} {d1 d2 d3 d4 : D} {nm : Str} (hb : FirstBad C K [("lost", d1), ("surplus", d2), ("value", d3), ("junction", d4)] nm) (h1 : d1.isAl = false) (h2 : d2.isAl = false) (h3 : d3.isAl = false) (h4 : d4.isAl = false) (k : R (.str nm) δ) : SpUnmade C K [.lst [d1, d2, d3, d4]] δ R T
theorem ok_unmade (F : Fun K "_law_unmade" "_law_unmade" s__law_unmade f fd) (ET : EpT K mg CP CW) (g1 : MkK P w K mg base 9 CQ "Prices" ["lost", "surplus", "value", "junction"] (fun d ds => d :: ds) pps (SpPInit C CP CQ K)) (e1 : ErrD P w K mg base "InvalidPrices" CP) : FnOk P w K mg base (L2.CX P w) 11 f fd ["_law_some"] (spOf K (SpUnmade C K)) := by
  refine fun_ok F sc__law_unmade (fun ds δ R T h => by cases h <;> rfl) ?_
  rintro cdv A outer s H E Nf γ Fz T' tk po ds δ R T0 hT hr hsc h
  have nd := sc__law_unmade.nd
  obtain @⟨_, _, _, d1, d2, d3, d4, nm, hb, h1, h2, h3, h4, k⟩ := h
  refine wss_one (ws_try (i := 1) rfl rfl nd rfl rfl ⟨rfl, by decide, .inl e1.gC⟩ fun pn xe γ2 F2 tk2 po2 => ?_)
  refine wss_one (ws_ret (we_cmp ?_))
  refine we_newK g1 hr ?_
  refine wk_cons ?_
  walk_at "ww"
  refine wk_cons ?_
  walk_at "ww"
  refine wk_cons ?_
  walk_at "ww"
  refine wk_cons ?_
  walk_at "ww"
  refine wk_nil ⟨rfl, .bad get_lastD hb h1 h2 h3 h4 ⟨true, ET.ex, fun _ ad oe pn3 γ3 F3 c => ?_, fun z => nomatch z⟩⟩
  rw [set_last]
  refine wss_one (ws_ret (we_given c e1.X (we_name rfl rfl ⟨rfl, ?_⟩)))
  exact ⟨δ, [none], .refl, Nat.le_refl _, hsc, (fun _ z => by cases z), k⟩
end
end K53
namespace K53
open PySem PySem.Spec PyProof.Rows L2 PV
section
variable {mg : Str → Option Value} {C : Addr} {Y : PX} {ρ : En} {δ : Sto}
/-- top and bottom -/
def num : D → Int × Int
  | .int p => (p, 1)
  | .ins _ _ [.int a, .int b] => (a, b)
  | _ => (0, 0)
theorem Num.num {d : D} {p q : Int} (n : Num C d p q) : num d = (p, q) := by cases n <;> rfl
def numEq (d e : D) : Bool := decide ((num d).1 = (num e).1) && decide ((num d).2 = (num e).2)
theorem numEq_iff {d e : D} : numEq d e = true ↔ (num d).1 = (num e).1 ∧ (num d).2 = (num e).2 := by unfold numEq; rw [Bool.and_eq_true, decide_eq_true_iff, decide_eq_true_iff]
theorem numEq_of {d e : D} {p q p' q' : Int} (n : Num C d p q) (n' : Num C e p' q') : numEq d e = (decide (p = p') && decide (q = q')) := Bool.eq_iff_iff.mpr (by rw [numEq_iff, n.num, n'.num, Bool.and_eq_true, decide_eq_true_iff, decide_eq_true_iff])
theorem eqB_num {d e : D} {p q p' q' : Int} (n : Num C d p q) (n' : Num C e p' q') (g : MtD Y.X.prog Y.X.w Y.X.K Y.X.mg Y.X.base 3 C "__eq__" ["self", "other"] [] (SpEq C Y.X.K)) (T : RatT Y.X.K mg C) (hs : PySem.W.subIn Y.X.K (.ref C) (.type "int") = some false) : EqB Y 4 ρ d e δ (numEq d e) := by
  have en := numEq_of n n'
  rw [en]
  cases n with
  | i =>
    cases n' with
    | i =>
      have e : (decide (p = p') && decide ((1 : Int) = 1)) = decide (p = p') := by simp
      rw [e]; exact eqB_ii
    | r =>
      have e : (decide (p = p') && decide (1 = q')) = (decide (q' = 1) && decide (p' = p)) := Bool.eq_iff_iff.mpr (by simp; omega)
      rw [e]; exact eqB_ir g hs
  | r =>
    cases n' with
    | i =>
      have e : (decide (p = p') && decide (q = 1)) = (decide (q = 1) && decide (p = p')) := Bool.and_comm _ _
      rw [e]; exact eqB_ri g T
    | r => exact eqB_rr g T
/-- a list of four prices, and their ratios -/
inductive Goods (C : Addr) : List D → List D → Prop
  | mk {d1 d2 d3 d4 : D} {p1 q1 p2 q2 p3 q3 p4 q4 : Int} (g1 : Good C d1 p1 q1) (g2 : Good C d2 p2 q2) (g3 : Good C d3 p3 q3) (g4 : Good C d4 p4 q4) : Goods C [d1, d2, d3, d4] [rat C p1 q1, rat C p2 q2, rat C p3 q3, rat C p4 q4]
theorem Good.rat {d : D} {p q : Int} (g : Good C d p q) : Good C (K53.rat C p q) p q := ⟨.r _ _, g.ge, g.bp, g.bq⟩
theorem Goods.four {ds rs : List D} (g : Goods C ds rs) : Four C rs := by
  cases g with
  | mk g1 g2 g3 g4 => exact ⟨_, _, _, _, _, _, _, _, g1.rat, g2.rat, g3.rat, g4.rat⟩
/-- the ratios as a list are a list of prices, too -/
theorem Goods.self {ds rs : List D} (g : Goods C ds rs) : Goods C rs rs := by
  cases g with
  | mk g1 g2 g3 g4 => exact ⟨g1.rat, g2.rat, g3.rat, g4.rat⟩
theorem Goods.nums {ds rs : List D} (g : Goods C ds rs) {i : Nat} {d : D} (h : ds[i]? = some d) : ∃ p q, Num C d p q := by
  cases g with
  | mk g1 g2 g3 g4 =>
    rcases i with _ | _ | _ | _ | i
    · cases h; exact ⟨_, _, g1.n⟩
    · cases h; exact ⟨_, _, g2.n⟩
    · cases h; exact ⟨_, _, g3.n⟩
    · cases h; exact ⟨_, _, g4.n⟩
    · cases h
/-- two lists of prices are compared -/
theorem rcB_goods {ds rs es ts : List D} {da db : D} (ne : Bool) (g1 : Goods C ds rs) (g2 : Goods C es ts) (ha : res δ da = .lst ds) (hb : res δ db = .lst es) (g : MtD Y.X.prog Y.X.w Y.X.K Y.X.mg Y.X.base 3 C "__eq__" ["self", "other"] [] (SpEq C Y.X.K)) (T : RatT Y.X.K mg C) (hs : PySem.W.subIn Y.X.K (.ref C) (.type "int") = some false) :
    RcB Y 5 ρ ne da db δ (allB ds es numEq) := by
  have h := rcB_lst (Y := Y) (ρ := ρ) (n := 4) (f := numEq) ne ha hb fun _ i d e e1 e2 => by
    obtain ⟨p, q, n⟩ := g1.nums e1
    obtain ⟨p', q', n'⟩ := g2.nums e2
    exact eqB_num n n' g T hs
  have e : decide (ds.length = es.length) = true := by cases g1; cases g2; rfl
  rw [e, Bool.true_and] at h
  exact h
theorem goods_eq {ds rs : List D} (g : Goods C ds rs) : allB rs ds numEq = true := by
  cases g with
  | mk g1 g2 g3 g4 => simp [PV.allB, numEq_of (.r _ _) g1.n, numEq_of (.r _ _) g2.n, numEq_of (.r _ _) g3.n, numEq_of (.r _ _) g4.n]
/-- the prices are equal exactly if the lists are -/
theorem goods_dct {ds rs es ts : List D} (g1 : Goods C ds rs) (g2 : Goods C es ts) : dctB kn ts ratEq kn rs = allB ds es numEq := by
  cases g1 with
  | mk g1 g2' g3 g4 =>
    cases g2 with
    | mk h1 h2 h3 h4 =>
      simp only [PV.allB, numEq_of g1.n h1.n, numEq_of g2'.n h2.n, numEq_of g3.n h3.n, numEq_of g4.n h4.n]
      rfl
end
end K53
namespace K53
open PySem PySem.Spec PyProof.Rows L2 PV
local macro_rules | `(tactic| walk_at "w") => `(tactic| first
  | refine we_int ?_ | refine we_str ?_ | refine we_bl ?_ | refine we_non ?_
  | refine we_name rfl rfl ?_
  | refine wss_one ?_ | refine wss_cons ?_ | refine wss_nil ?_
  | refine ws_par rfl (by assumption) rfl rfl ?_ | refine ws_let (by assumption) rfl ?_ | refine ws_ret ?_ | refine ws_retN ?_ | refine ws_if ?_ | refine ws_pass ?_
  | refine wa_cons ?_ | refine wa_nil ?_
  | refine we_bin ?_ | refine wt_cmp ?_ | refine we_cmp ?_ | refine wt_not ?_ | refine we_not ?_ | refine wt_bool ?_ | refine we_un ?_
  | refine ww_and1 ?_ | refine ww_or1 ?_ | refine ww_and ?_ | refine ww_or ?_ | refine we_one ?_ | refine we_and ?_ | refine we_or ?_ | refine we_ifExp ?_
  | refine we_abs (by assumption) ?_ | refine we_len (by assumption) ?_ | refine we_isinstance (by assumption) ?_ | refine we_all (by assumption) ?_ | refine we_intT (by assumption) ?_ | refine we_boolT (by assumption) ?_ | refine we_strT (by assumption) ?_ | refine we_listT (by assumption) ?_ | refine we_tupleT (by assumption) ?_
  | refine we_intV (by assumption) ?_ | refine we_boolV (by assumption) ?_ | refine we_strV (by assumption) ?_ | refine we_listV (by assumption) ?_ | refine we_tupleV (by assumption) ?_ | refine we_dictV (by assumption) ?_
  | refine c_abs ?_ | refine c_int ?_ | refine c_intB ?_ | refine c_boolI ?_
  | refine bin_add ?_ | refine bin_sub ?_ | refine un_negD ?_ | refine bin_mod (by omega) ?_
  | refine cmp_lt ?_ | refine cmp_le ?_ | refine cmp_gt ?_ | refine cmp_ge ?_ | refine cmp_eqI ?_ | refine cmp_neI ?_ | refine cmp_eqS ?_ | refine cmp_neS ?_ | refine cmp_eqB ?_ | refine cmp_neB ?_ | refine cmp_isN ?_ | refine cmp_notN ?_
  | refine tru_bl ?_ | refine tru_int ?_ | refine tru_non ?_
  | refine c_isB rfl (by decide) ?_
  | refine we_fld (by assumption) ?_ | refine ⟨_, _, _, rfl, rfl, ?_⟩
  | refine we_fn (by assumption) (by first | assumption | exact Room.mono (by assumption) (by decide)) ?_ | refine we_nw (by assumption) (by first | assumption | exact Room.mono (by assumption) (by decide)) ?_
  | refine wt_val ?_
  | refine ⟨_, rfl, ?_⟩ | refine ⟨_, _, rfl, ?_⟩
  | walk_at "sp"
  | refine ⟨fun _ => ?_, fun z => absurd z (by decide)⟩ | refine ⟨fun z => absurd z (by decide), fun _ => ?_⟩
  )
local macro_rules | `(tactic| walk_at "ww") => `(tactic| repeat (walk_at "w"))
local macro_rules | `(tactic| walk_at "sp") => `(tactic| first
  | refine we_ix ?_ | refine bin_powI (by decide) ?_ | refine ix_lst rfl rfl ?_)
def gJ (d : D) : List D → List D
  | [j, v, l, s] => [d, l, s, v, j]
  | _ => []
def gV (d : D) : List D → List D
  | [v] => [d, .int 1, .int 1, v, .int 1]
  | _ => []
/-- all that the law's def needs -/
structure Tx (P : Program) (w : World) (K : PySem.W.Frag) (mg : Str → Option Value) (base : Heap) (C CP CQ : Addr) : Prop where
  B : Blt mg
  T : RatT K mg C
  TQ : PrT K mg CQ
  hs : PySem.W.subIn K (.ref C) (.type "int") = some false
  eqR : MtD P w K mg base 3 C "__eq__" ["self", "other"] [] (SpEq C K)
  eqP : MtD P w K mg base 6 CQ "__eq__" ["self", "other"] [] (SpPEq C CQ K)
  start : FnD P w K mg base 1 "_law_start" ["_law_script"] [] SpStart
  draw : FnD P w K mg base 1 "_law_draw" ["_law_state", "_law_many"] [] SpDraw
  price : FnD P w K mg base 5 "_law_price" ["_law_state"] [] (SpLPrice C)
  odd : FnD P w K mg base 5 "_law_odd" ["_law_state"] [] (SpLOdd C K)
  told : FnD P w K mg base 4 "_law_told" ["_law_prices"] [] (SpTold C CQ)
  unch : FnD P w K mg base 10 "_law_unchanged" ["_law_prices", "_law_name", "_law_thing"] [] (SpUnch C CP CQ K)
  unmade : FnD P w K mg base 11 "_law_unmade" ["_law_some"] [] (SpUnmade C K)
  mk4 : MkK P w K mg base 9 CQ "Prices" ["lost", "surplus", "value", "junction"] (fun d ds => d :: ds) pps (SpPInit C CP CQ K)
  mkJ : MkK P w K mg base 9 CQ "Prices" ["junction", "value", "lost", "surplus"] gJ pps (SpPInit C CP CQ K)
  mkV : MkK P w K mg base 9 CQ "Prices" ["value"] gV pps (SpPInit C CP CQ K)
  mk0 : MkD P w K mg base 9 CQ "Prices" pps [.int 1, .int 1, .int 1, .int 1] (SpPInit C CP CQ K)
  change : MtD P w K mg base 9 CQ "change" ["self", "name", "price"] [] (SpChange C CP CQ K)
  copied : MtD P w K mg base 11 CQ "copied" ["self"] [] (SpCopied C CQ)
section
variable {P : Program} {w : World} {K : PySem.W.Frag} {mg : Str → Option Value} {base : Heap} {f C CI CN CP CQ CW : Addr} {fd : FuncData}
theorem get_app {δ l : Sto} {i : Nat} : (δ ++ l)[δ.length + i]? = l[i]? := by
  rw [List.getElem?_append_right (Nat.le_add_right _ _), Nat.add_sub_cancel_left]
theorem get_app0 {δ l : Sto} {x : Option D} : (δ ++ x :: l)[δ.length]? = some x := by
  rw [List.getElem?_append_right (Nat.le_refl _), Nat.sub_self]; rfl
theorem set_app {δ l : Sto} {i : Nat} {x : Option D} : (δ ++ l).set (δ.length + i) x = δ ++ l.set i x := by
  rw [List.set_append_right _ _ (Nat.le_add_right _ _), Nat.add_sub_cancel_left]
theorem set_app0 {δ l : Sto} {x y : Option D} : (δ ++ x :: l).set δ.length y = δ ++ y :: l := by
  rw [List.set_append_right _ _ (Nat.le_refl _), Nat.sub_self]; rfl
theorem Four.get {rs : List D} (f : Four C rs) {i : Nat} {d : D} (h : rs[i]? = some d) : ∃ p q, d = rat C p q := by
  cases f with
  | mk p1 q1 p2 q2 p3 q3 p4 q4 =>
    rcases i with _ | _ | _ | _ | i
    · cases h; exact ⟨_, _, rfl⟩
    · cases h; exact ⟨_, _, rfl⟩
    · cases h; exact ⟨_, _, rfl⟩
    · cases h; exact ⟨_, _, rfl⟩
    · cases h
theorem Four.len {rs : List D} (f : Four C rs) : rs.length = 4 := by cases f; rfl
theorem all_rep {n : Nat} : (List.replicate n true).all id = true := by simp
theorem isPr_new {δ : Sto} {rs : List D} : IsPr CQ (δ ++ newPr CQ δ.length rs) δ.length (δ.length + 1) rs := ⟨get_app0, get_app (i := 1)⟩
theorem Goods.get {ds rs : List D} (g : Goods C ds rs) {i : Int} (h0 : 0 ≤ i) (h1 : i < 4) : ∃ d p q, atI ds i = some d ∧ Good C d p q := by
  have c : i = 0 ∨ i = 1 ∨ i = 2 ∨ i = 3 := by omega
  cases g with
  | mk g1 g2 g3 g4 =>
    rcases c with rfl | rfl | rfl | rfl
    · exact ⟨_, _, _, rfl, g1⟩
    · exact ⟨_, _, _, rfl, g2⟩
    · exact ⟨_, _, _, rfl, g3⟩
    · exact ⟨_, _, _, rfl, g4⟩
theorem noAl4 {d : D} (h : d.isAl = false) : noAl [.int 1, .int 1, d, .int 1] = true := by unfold noAl; rw [List.all_cons, List.all_cons, List.all_cons, h]; rfl
theorem good1 : Good C (.int 1) 1 1 := ⟨.i _, by decide, by show (1 : Nat) < 2 ^ 8000; exact Nat.one_lt_two_pow (by decide), by show (1 : Nat) < 2 ^ 8000; exact Nat.one_lt_two_pow (by decide)⟩
/-- the store in the law's loop -/
structure LS (CQ : Addr) (δ δ' : Sto) (zs : List Int) (ds rs rs0 : List D) (lj lm : Nat) : Prop where
  st : ∃ a r s, 0 ≤ a ∧ δ'[δ.length]? = some (some (stD zs a r s))
  so : δ'[δ.length + 1]? = some (some (.lst ds))
  pr : IsPr CQ δ' (δ.length + 2) (δ.length + 3) rs
  lk : IsPr CQ δ' lj lm rs0
  hj : δ.length + 3 < lj ∧ δ.length + 3 < lm
  tk : ∃ ε, δ' = δ ++ ε
theorem set_tk {δ δ' : Sto} {j : Nat} {x : Option D} (h : ∃ ε, δ' = δ ++ ε) (hj : δ.length ≤ j) : ∃ ε, δ'.set j x = δ ++ ε := by
  obtain ⟨ε, rfl⟩ := h
  exact ⟨_, List.set_append_right _ _ hj⟩
theorem IsPr.set {δ : Sto} {j m i : Nat} {x : Option D} {rs : List D} (h : IsPr CQ δ j m rs) (h1 : i ≠ j) (h2 : i ≠ m) : IsPr CQ (δ.set i x) j m rs := ⟨by rw [List.getElem?_set_ne h1]; exact h.o, by rw [List.getElem?_set_ne h2]; exact h.d⟩
variable {δ δ' : Sto} {zs : List Int} {ds rs rs0 : List D} {lj lm : Nat}
theorem LS.draw (h : LS CQ δ δ' zs ds rs rs0 lj lm) {a r s : Int} (ha : 0 ≤ a) : LS CQ δ (δ'.set δ.length (some (stD zs a r s))) zs ds rs rs0 lj lm := by
  obtain ⟨⟨a0, r0, s0, _, h1⟩, h2, h3, h4, h5, h6⟩ := h
  exact ⟨⟨a, r, s, ha, get_set h1⟩, by rw [List.getElem?_set_ne (by omega)]; exact h2, h3.set (by omega) (by omega), h4.set (by omega) (by omega), h5, set_tk h6 (by omega)⟩
theorem LS.some_ (h : LS CQ δ δ' zs ds rs rs0 lj lm) (ds' : List D) : LS CQ δ (δ'.set (δ.length + 1) (some (.lst ds'))) zs ds' rs rs0 lj lm := by
  obtain ⟨⟨a0, r0, s0, ha, h1⟩, h2, h3, h4, h5, h6⟩ := h
  exact ⟨⟨a0, r0, s0, ha, by rw [List.getElem?_set_ne (by omega)]; exact h1⟩, get_set h2, h3.set (by omega) (by omega), h4.set (by omega) (by omega), h5, set_tk h6 (by omega)⟩
theorem LS.price (h : LS CQ δ δ' zs ds rs rs0 lj lm) (rs' : List D) : LS CQ δ (δ'.set (δ.length + 3) (some (.dct kn rs'))) zs ds rs' rs0 lj lm := by
  obtain ⟨⟨a0, r0, s0, ha, h1⟩, h2, h3, h4, h5, h6⟩ := h
  exact ⟨⟨a0, r0, s0, ha, by rw [List.getElem?_set_ne (by omega)]; exact h1⟩, by rw [List.getElem?_set_ne (by omega)]; exact h2, ⟨by rw [List.getElem?_set_ne (by omega)]; exact h3.o, get_set h3.d⟩, h4.set (by omega) (by omega), h5, set_tk h6 (by omega)⟩
theorem IsPr.app {δ l : Sto} {j m : Nat} {rs : List D} (h : IsPr CQ δ j m rs) : IsPr CQ (δ ++ l) j m rs := ⟨by rw [List.getElem?_append_left (List.getElem?_eq_some_iff.mp h.o).1]; exact h.o, by rw [List.getElem?_append_left (List.getElem?_eq_some_iff.mp h.d).1]; exact h.d⟩
theorem LS.app (h : LS CQ δ δ' zs ds rs rs0 lj lm) (l : Sto) : LS CQ δ (δ' ++ l) zs ds rs rs0 lj lm := by
  obtain ⟨⟨a0, r0, s0, ha, h1⟩, h2, h3, h4, h5, ⟨ε, h6⟩⟩ := h
  exact ⟨⟨a0, r0, s0, ha, by rw [List.getElem?_append_left (List.getElem?_eq_some_iff.mp h1).1]; exact h1⟩, by rw [List.getElem?_append_left (List.getElem?_eq_some_iff.mp h2).1]; exact h2, h3.app, h4.app, h5, ε ++ l, by rw [h6, List.append_assoc]⟩
theorem Goods.noAl {ds rs : List D} (g : Goods C ds rs) : noAl ds = true := by
  cases g with
  | mk g1 g2 g3 g4 => unfold PV.noAl; rw [List.all_cons, List.all_cons, List.all_cons, List.all_cons, g1.isAl, g2.isAl, g3.isAl, g4.isAl]; rfl
theorem Goods.len {ds rs : List D} (g : Goods C ds rs) : ds.length = 4 := by cases g; rfl
/-- a word by its place -/
theorem word_at {ds rs : List D} (g : Goods C ds rs) {x : Int} (h0 : 0 ≤ x) (h1 : x < 4) : ∃ nm : Str, atI [D.str "lost", .str "surplus", .str "value", .str "junction"] x = some (.str nm) ∧ (lookK (.inr nm) kn rs).isSome = true ∧ putKs (.inr nm) kn = kn ∧ ixN ds.length x = some x.toNat ∧
    ∀ d p q, Good C d p q → Goods C (ds.set x.toNat d) (putKd (.inr nm) (rat C p q) kn rs) ∧ noAl (putKd (.inr nm) (rat C p q) kn rs) = true ∧ atI (ds.set x.toNat d) x = some d := by
  have c : x = 0 ∨ x = 1 ∨ x = 2 ∨ x = 3 := by omega
  cases g with
  | mk g1 g2 g3 g4 =>
    rcases c with rfl | rfl | rfl | rfl
    · exact ⟨_, rfl, rfl, rfl, rfl, fun d p q h => ⟨⟨h, g2, g3, g4⟩, rfl, rfl⟩⟩
    · exact ⟨_, rfl, rfl, rfl, rfl, fun d p q h => ⟨⟨g1, h, g3, g4⟩, rfl, rfl⟩⟩
    · exact ⟨_, rfl, rfl, rfl, rfl, fun d p q h => ⟨⟨g1, g2, h, g4⟩, rfl, rfl⟩⟩
    · exact ⟨_, rfl, rfl, rfl, rfl, fun d p q h => ⟨⟨g1, g2, g3, h⟩, rfl, rfl⟩⟩
theorem no_price {rs : List D} (f : Four C rs) : (lookK (.inr "price") kn rs).isSome = false := by cases f; rfl
/-- the drawn list with wrong things from place l on -/
def BadAt (ds : List D) (o : D) (l : Int) (acc : List D) : Prop := ∀ (j : Nat) e, acc[j]? = some e → ((j : Int) < l → ds[j]? = some e) ∧ ((j : Int) = l → e = o) ∧ (l < (j : Int) → e = o ∨ ds[j]? = some e)
theorem badAt_snoc {ds : List D} {o : D} {l : Int} {acc : List D} {e : D} (h : BadAt ds o l acc) (h1 : (acc.length : Int) < l → ds[acc.length]? = some e) (h2 : (acc.length : Int) = l → e = o) (h3 : l < (acc.length : Int) → e = o ∨ ds[acc.length]? = some e) : BadAt ds o l (acc ++ [e]) := fun j e' he => by
  by_cases hj : j < acc.length
  · rw [List.getElem?_append_left hj] at he; exact h j e' he
  · have : j = acc.length := by
      have := (List.getElem?_eq_some_iff.mp he).1
      simp at this; omega
    subst this
    rw [List.getElem?_append_right (Nat.le_refl _), Nat.sub_self] at he
    cases he
    exact ⟨h1, h2, h3⟩
theorem firstBad_of {ds rs : List D} {o : D} {l : Int} {e0 e1 e2 e3 : D} (g : Goods C ds rs) (hb : Bad C K o) (h0 : 0 ≤ l) (h1 : l < 4) (h : BadAt ds o l [e0, e1, e2, e3]) :
    ∃ nm : Str, atI [D.str "lost", .str "surplus", .str "value", .str "junction"] l = some (.str nm) ∧ FirstBad C K [("lost", e0), ("surplus", e1), ("value", e2), ("junction", e3)] nm ∧ e0.isAl = false ∧ e1.isAl = false ∧ e2.isAl = false ∧ e3.isAl = false := by
  cases g with
  | @mk d1 d2 d3 d4 p1 q1 p2 q2 p3 q3 p4 q4 g1 g2 g3 g4 =>
    have a0 := h 0 e0 rfl
    have a1 := h 1 e1 rfl
    have a2 := h 2 e2 rfl
    have a3 := h 3 e3 rfl
    have al : ∀ {e d : D} {p q : Int}, Good C d p q → (e = o ∨ some d = some e) → e.isAl = false := fun {e d p q} g z => by
      rcases z with rfl | z
      · exact hb.isAl
      · cases z; exact g.isAl
    have c : l = 0 ∨ l = 1 ∨ l = 2 ∨ l = 3 := by omega
    rcases c with rfl | rfl | rfl | rfl
    · have z0 := a0.2.1 rfl
      subst z0
      exact ⟨_, rfl, .inl ⟨hb, rfl⟩, hb.isAl, al g2 (a1.2.2 (by decide)), al g3 (a2.2.2 (by decide)), al g4 (a3.2.2 (by decide))⟩
    · have z0 : some d1 = some e0 := a0.1 (by decide)
      cases z0
      have z1 := a1.2.1 rfl
      subst z1
      exact ⟨_, rfl, .inr ⟨⟨_, _, g1⟩, .inl ⟨hb, rfl⟩⟩, g1.isAl, hb.isAl, al g3 (a2.2.2 (by decide)), al g4 (a3.2.2 (by decide))⟩
    · have z0 : some d1 = some e0 := a0.1 (by decide)
      cases z0
      have z1 : some d2 = some e1 := a1.1 (by decide)
      cases z1
      have z2 := a2.2.1 rfl
      subst z2
      exact ⟨_, rfl, .inr ⟨⟨_, _, g1⟩, .inr ⟨⟨_, _, g2⟩, .inl ⟨hb, rfl⟩⟩⟩, g1.isAl, g2.isAl, hb.isAl, al g4 (a3.2.2 (by decide))⟩
    · have z0 : some d1 = some e0 := a0.1 (by decide)
      cases z0
      have z1 : some d2 = some e1 := a1.1 (by decide)
      cases z1
      have z2 : some d3 = some e2 := a2.1 (by decide)
      cases z2
      have z3 := a3.2.1 rfl
      subst z3
      exact ⟨_, rfl, .inr ⟨⟨_, _, g1⟩, .inr ⟨⟨_, _, g2⟩, .inr ⟨⟨_, _, g3⟩, .inl ⟨hb, rfl⟩⟩⟩⟩, g1.isAl, g2.isAl, g3.isAl, hb.isAl⟩
theorem SpPEq.monoT {ds : List D} {δ : Sto} : ∀ (R : RK) (T T' : XD), (∀ C g δ', T C g δ' → T' C g δ') → SpPEq C CQ K ds δ R T → SpPEq C CQ K ds δ R T' := fun R T T' _ h => by
  cases h with
  | two a b c d e k => exact .two a b c d e k
  | no k => exact .no k
theorem goods_refl {ds rs : List D} (g : Goods C ds rs) : dctB kn rs ratEq kn rs = true := by
  rw [goods_dct g g]
  cases g with
  | mk g1 g2 g3 g4 => simp [PV.allB, numEq_of g1.n g1.n, numEq_of g2.n g2.n, numEq_of g3.n g3.n, numEq_of g4.n g4.n]
inductive SpLaw : DSp
  | mk {δ : Sto} {R : RK} {T : XD} {zs : List Int} (k : R (.bl true) δ) : SpLaw [.lst (zs.map D.int)] δ R T
abbrev wordsD : D := .lst [.str "lost", .str "surplus", .str "value", .str "junction"]
theorem ok_law (F : Fun K "law" "law" s_law f fd) (X : Tx P w K mg base C CP CQ) : FnOk P w K mg base (L2.CX P w) 13 f fd ["_law_script"] (spOf K SpLaw) := by
  refine fun_ok F sc_law (fun ds δ R T h => by cases h; rfl) ?_
  rintro cdv A outer s H E Nf γ Fz T' tk po ds δ R T0 hT hr hsc h
  obtain @⟨_, _, _, zs, k⟩ := h
  have nd := sc_law.nd
  have b1 := X.B.isinstance_
  have b2 := X.B.list_
  have b3 := X.B.range_
  have b4 := X.B.all_
  have r1 : Room 1 _ := hr.mono (by decide)
  have r5 : Room 5 _ := hr.mono (by decide)
  have g1 := X.start
  refine wss_cons (ws_let nd rfl (we_fn g1 r1 (wa_cons (we_name rfl rfl (wa_nil (.mk rfl ?_))))))
  refine wss_cons (ws_let nd rfl (we_lst ?_))
  walk_at "ww"
  refine ⟨(by decide : 4 ≤ sizeLine), rfl, ?_⟩
  refine wss_cons ?_
  refine ws_let nd rfl (we_lc rfl nd (own := [("_law_word", 4)]) (show BlkOk n_law (defScope s_law) _ _ from ⟨rfl, by decide +kernel, by decide +kernel, by decide +kernel, by decide +kernel⟩) (wi_list (we_name rfl rfl ⟨_, rfl, fun _ => ⟨(by decide : 4 ≤ sizeLine), ?_⟩⟩)))
  have price := X.price
  refine ⟨fun i acc δ' => ∃ a r s, 0 ≤ a ∧ δ' = δ ++ [some (stD zs a r s)] ∧ acc.length = i ∧ ∀ d ∈ acc, ∃ p q, Good C d p q, ⟨0, 0, 7, by decide, rfl, rfl, by simp⟩, fun _ _ _ _ _ => rfl, ?_, ?_⟩
  · rintro i d acc _ hd ⟨a, r, sd, ha, rfl, hl, hg⟩ _ _ _ _ _ _ _ _
    refine wgv_name 4 ?_ (by decide) nd rfl (by first | exact Or.inl rfl | exact Or.inr rfl) (by first | exact .inl rfl | exact .inr rfl)
    intro _ _ _ _ _ _ _ _
    refine wts_nil ⟨fun _ => ?_, fun z => nomatch z⟩
    intro _ _ _ _ _ _ _ _
    refine we_fn price r5 (wa_cons (we_name rfl rfl (wa_nil (.mk get_lastD ha fun d p q a' r' s' g ha' => ⟨g.isAl, a', r', s', ha', ?_, ?_, ?_⟩))))
    · rw [set_last]
    · simp [hl]
    · intro e he
      rcases List.mem_append.mp he with he | he
      · exact hg e he
      · simp at he; subst he; exact ⟨p, q, g⟩
  · rintro acc _ ⟨a, r, sd, ha, rfl, hl, hg⟩
    refine .inr ?_
    obtain ⟨ds, rs, e, g⟩ : ∃ ds rs, acc = ds ∧ Goods C ds rs := by
      obtain ⟨d1, d2, d3, d4, rfl⟩ : ∃ d1 d2 d3 d4, acc = [d1, d2, d3, d4] := by
        match acc, hl with
        | [d1, d2, d3, d4], _ => exact ⟨d1, d2, d3, d4, rfl⟩
      obtain ⟨p1, q1, h1⟩ := hg d1 (by simp)
      obtain ⟨p2, q2, h2⟩ := hg d2 (by simp)
      obtain ⟨p3, q3, h3⟩ := hg d3 (by simp)
      obtain ⟨p4, q4, h4⟩ := hg d4 (by simp)
      exact ⟨_, _, rfl, h1, h2, h3, h4⟩
    subst e
    clear hg hl
    simp only [List.append_assoc, List.length_append, List.length_cons, List.length_nil, List.cons_append, List.nil_append, Nat.zero_add]
    have gS : (δ ++ [some (stD zs a r sd), some (.lst acc)])[δ.length + 1]? = some (some (.lst acc)) := get_app
    have mkJ := X.mkJ
    refine wss_cons (ws_let nd rfl (we_newK mkJ (hr.mono (by decide)) ?_))
    cases g with
    | @mk d1 d2 d3 d4 p1 q1 p2 q2 p3 q3 p4 q4 h1 h2 h3 h4 =>
    have gg : Goods C [d1, d2, d3, d4] [rat C p1 q1, rat C p2 q2, rat C p3 q3, rat C p4 q4] := ⟨h1, h2, h3, h4⟩
    refine wk_cons (we_ix (we_name rfl rfl (we_int (ix_lst (res_of gS) rfl ?_))))
    refine wk_cons (we_ix (we_name rfl rfl (we_int (ix_lst (res_of gS) rfl ?_))))
    refine wk_cons (we_ix (we_name rfl rfl (we_int (ix_lst (res_of gS) rfl ?_))))
    refine wk_cons (we_ix (we_name rfl rfl (we_int (ix_lst (res_of gS) rfl ?_))))
    refine wk_nil ⟨rfl, .ok get_lastD h1 h2 h3 h4 ⟨rfl, ?_⟩⟩
    rw [new_pr]
    generalize [rat C p1 q1, rat C p2 q2, rat C p3 q3, rat C p4 q4] = rs at gg
    generalize [d1, d2, d3, d4] = acc at gg gS
    simp only [List.append_assoc, List.length_append, List.length_cons, List.length_nil, List.cons_append, List.nil_append, Nat.zero_add]
    have pr : IsPr CQ (δ ++ [some (stD zs a r sd), some (.lst acc), some (.ins CQ ["known"] [.al (δ.length + 3)]), some (.dct kn rs)]) (δ.length + 2) (δ.length + 3) rs := ⟨get_app, get_app⟩
    have gS : (δ ++ [some (stD zs a r sd), some (.lst acc), some (.ins CQ ["known"] [.al (δ.length + 3)]), some (.dct kn rs)])[δ.length + 1]? = some (some (.lst acc)) := get_app
    have told := X.told
    have r4 : Room 4 _ := hr.mono (by decide)
    refine wss_cons (ws_if ?_)
    walk_at "ww"
    refine .mk pr gg.four ?_
    walk_at "ww"
    refine cmp_neR (rcB_goods true gg.self gg rfl (res_of gS) X.eqR X.T X.hs) r5 ?_
    rw [goods_eq gg]
    walk_at "ww"
    refine we_lc rfl nd (own := [("_law_price_here", 6)]) (show BlkOk n_law (defScope s_law) _ _ from ⟨rfl, by decide +kernel, by decide +kernel, by decide +kernel, by decide +kernel⟩) (wi_list (we_fn told r4 (wa_cons (we_name rfl rfl (wa_nil (.mk pr gg.four ⟨_, rfl, fun hz => ⟨hz, ?_⟩⟩))))))
    refine ⟨fun i ac δ' => δ' = δ ++ [some (stD zs a r sd), some (.lst acc), some (.ins CQ ["known"] [.al (δ.length + 3)]), some (.dct kn rs)] ∧ ac = (List.replicate i true).map D.bl, ⟨rfl, rfl⟩, fun _ _ _ _ _ => rfl, ?_, ?_⟩
    · rintro i d ac _ hd ⟨rfl, rfl⟩ _ _ _ _ _ _ _ _
      obtain ⟨p, q, rfl⟩ := gg.four.get hd
      refine wgv_name 6 ?_ (by decide) nd rfl (by first | exact Or.inl rfl | exact Or.inr rfl) (by first | exact .inl rfl | exact .inr rfl)
      intro _ _ _ _ _ _ _ _
      refine wts_nil ⟨fun _ => ?_, fun z => nomatch z⟩
      intro _ _ _ _ _ _ _ _
      refine we_isinstance b1 (wa_cons (we_name rfl rfl (wa_cons (we_gl X.T.mgC (wa_nil (c_isO rfl X.T.ins X.T.kOwn ⟨rfl, rfl, ?_⟩))))))
      rw [List.replicate_succ', List.map_append]; rfl
    rintro ac _ ⟨rfl, rfl⟩
    refine .inl ?_
    walk_at "ww"
    refine c_all rfl rfl ?_
    rw [all_rep]
    walk_at "ww"
    generalize hΔ : δ ++ [some (stD zs a r sd), some (.lst acc), some (.ins CQ ["known"] [.al (δ.length + 3)]), some (.dct kn rs)] = Δ at pr gS
    have mk0 := X.mk0
    have mkV := X.mkV
    have g11 : Goods C [.int 1, .int 1, .int 1, .int 1] [rat C 1 1, rat C 1 1, rat C 1 1, rat C 1 1] := ⟨good1, good1, good1, good1⟩
    refine we_new0 mk0 (hr.mono (by decide)) (.ok get_lastD good1 good1 good1 good1 ⟨rfl, ?_⟩)
    rw [new_pr]
    walk_at "ww"
    refine .mk isPr_new g11.four ?_
    refine we_lst ?_
    walk_at "ww"
    refine ⟨(by decide : 4 ≤ sizeLine), rfl, ?_⟩
    refine cmp_neR (rcB_goods true g11.self g11 rfl rfl X.eqR X.T X.hs) r5 ?_
    rw [goods_eq g11]
    obtain ⟨d3, p3, q3, e3, h3⟩ := gg.get (i := 2) (by decide) (by decide)
    have gS2 : (Δ ++ newPr CQ Δ.length [rat C 1 1, rat C 1 1, rat C 1 1, rat C 1 1])[δ.length + 1]? = some (some (.lst acc)) := by
      rw [List.getElem?_append_left (List.getElem?_eq_some_iff.mp gS).1]; exact gS
    walk_at "ww"
    refine we_newK mkV (hr.mono (by decide)) (wk_cons (we_ix (we_name rfl rfl (we_int (ix_lst (res_of gS2) e3 (wk_nil ⟨rfl, .ok get_lastD good1 good1 h3 good1 ⟨rfl, ?_⟩⟩))))))
    rw [new_pr]
    have g13 : Goods C [.int 1, .int 1, d3, .int 1] [rat C 1 1, rat C 1 1, rat C p3 q3, rat C 1 1] := ⟨good1, good1, h3, good1⟩
    walk_at "ww"
    refine .mk isPr_new g13.four ?_
    refine we_lst ?_
    walk_at "ww"
    generalize hΔ2 : Δ ++ newPr CQ Δ.length [rat C 1 1, rat C 1 1, rat C 1 1, rat C 1 1] = Δ2 at gS2
    have pr2 : IsPr CQ (Δ2 ++ newPr CQ Δ2.length [rat C 1 1, rat C 1 1, rat C p3 q3, rat C 1 1]) (δ.length + 2) (δ.length + 3) rs := by
      rw [← hΔ2]; exact pr.app.app
    have gS3 : (Δ2 ++ newPr CQ Δ2.length [rat C 1 1, rat C 1 1, rat C p3 q3, rat C 1 1])[δ.length + 1]? = some (some (.lst acc)) := by
      rw [List.getElem?_append_left (List.getElem?_eq_some_iff.mp gS2).1]; exact gS2
    have gT3 : (Δ2 ++ newPr CQ Δ2.length [rat C 1 1, rat C 1 1, rat C p3 q3, rat C 1 1])[δ.length]? = some (some (stD zs a r sd)) := by
      rw [← hΔ2, ← hΔ, List.append_assoc, List.append_assoc]; exact get_app0
    have tk3 : ∃ ε, Δ2 ++ newPr CQ Δ2.length [rat C 1 1, rat C 1 1, rat C p3 q3, rat C 1 1] = δ ++ ε := by
      rw [← hΔ2, ← hΔ, List.append_assoc, List.append_assoc]; exact ⟨_, rfl⟩
    refine ix_lst (res_of gS3) e3 ?_
    walk_at "ww"
    refine ⟨(by decide : 4 ≤ sizeLine), noAl4 h3.isAl, ?_⟩
    refine cmp_neR (rcB_goods true g13.self g13 rfl rfl X.eqR X.T X.hs) r5 ?_
    rw [goods_eq g13]
    have hlen3 : δ.length + 3 < (Δ2 ++ newPr CQ Δ2.length [rat C 1 1, rat C 1 1, rat C p3 q3, rat C 1 1]).length := (List.getElem?_eq_some_iff.mp pr2.d).1
    generalize Δ2 ++ newPr CQ Δ2.length [rat C 1 1, rat C 1 1, rat C p3 q3, rat C 1 1] = Δ3 at pr2 gS3 gT3 tk3 hlen3
    walk_at "ww"
    have copied := X.copied
    refine we_mt0 copied (hr.mono (by decide)) (we_name rfl rfl ⟨_, _, res_of pr2.o, rfl, .mk pr2 gg.four ?_⟩)
    have ls : LS CQ δ (Δ3 ++ newPr CQ Δ3.length rs) zs acc rs rs Δ3.length (Δ3.length + 1) := by
      obtain ⟨ε, e⟩ := tk3
      exact ⟨⟨a, r, sd, ha, by rw [List.getElem?_append_left (List.getElem?_eq_some_iff.mp gT3).1]; exact gT3⟩, by rw [List.getElem?_append_left (List.getElem?_eq_some_iff.mp gS3).1]; exact gS3, pr2.app, isPr_new, ⟨hlen3, by omega⟩, ε ++ newPr CQ Δ3.length rs, by rw [← List.append_assoc, ← e]⟩
    walk_at "ww"
    refine c_listF (.inl (res_of ls.so)) gg.noAl ?_
    generalize hL : Δ3.length = lj at ls
    generalize Δ3 ++ newPr CQ lj rs = δ5 at ls
    refine wss_cons (ws_for rfl (wi_range1 b3 ?_))
    have draw := X.draw
    obtain ⟨a1, r1', s1, ha1, gst⟩ := ls.st
    walk_at "ww"
    refine .mk gst ha1 (by decide) (by decide) fun x a' r' s' hx0 hx1 ha' => ?_
    walk_at "ww"
    refine ⟨⟨by omega, by omega⟩, ?_⟩
    have ls := ls.draw (a := a') (r := r') (s := s') ha'
    generalize δ5.set δ.length (some (stD zs a' r' s')) = δ6 at ls
    refine ⟨fun i ρ' δ' => ∃ ds' rs' x9 x10 x11 x12 x13, Goods C ds' rs' ∧ LS CQ δ δ' zs ds' rs' rs lj (lj + 1) ∧ ρ' = [some (.lst (zs.map D.int)), some (.al δ.length), some wordsD, some (.al (δ.length + 1)), none, some (.al (δ.length + 2)), none, some (.al lj), some (.lst acc), x9, x10, x11, x12, x13], ?_, fun _ _ _ _ _ => trivial, ?_, ?_⟩
    · exact ⟨_, _, none, none, none, none, none, gg, ls, rfl⟩
    · clear ls gst
      rintro i d _ δ' hd ⟨ds', rs', x9, x10, x11, x12, x13, gd, ls, rfl⟩
      obtain ⟨hi, rfl⟩ := rangeD_at hd
      refine wgn_name nd rfl ?_
      have r10 : Room 10 _ := hr.mono (by decide)
      have r11 : Room 11 _ := hr.mono (by decide)
      have change := X.change
      have odd := X.odd
      have unch := X.unch
      obtain ⟨a0, r0, s0, ha0, g0⟩ := ls.st
      walk_at "ww"
      refine .mk g0 ha0 (by decide) (by decide) fun x a1 r1' s1 hx0 hx1 hb1 => ?_
      have ls := ls.draw (a := a1) (r := r1') (s := s1) hb1
      clear g0
      generalize δ'.set δ.length (some (stD zs a1 r1' s1)) = δ7 at ls
      obtain ⟨nm, w1, w2, w3, w4, w5⟩ := word_at gd hx0 hx1
      obtain ⟨a0, r0, s0, ha0, g0⟩ := ls.st
      refine wss_cons (ws_sub ?_)
      walk_at "ww"
      refine .mk g0 ha0 fun d p q a2 r2 s2 hg ha2 => ?_
      have ls := ls.draw (a := a2) (r := r2) (s := s2) ha2
      clear g0
      generalize δ7.set δ.length (some (stD zs a2 r2 s2)) = δ8 at ls
      walk_at "ww"
      refine set_lst ls.so w4 ?_
      have ls := ls.some_ (ds'.set x.toNat d)
      generalize δ8.set (δ.length + 1) (some (.lst (ds'.set x.toNat d))) = δ9 at ls
      obtain ⟨gd2, hn2, at2⟩ := w5 d p q hg
      refine wss_cons (ws_expr (we_mt change (hr.mono (by decide)) (we_name rfl rfl ⟨_, _, res_of ls.pr.o, rfl, ?_⟩)))
      walk_at "ww"
      refine ix_lst rfl w1 ?_
      walk_at "ww"
      refine ix_lst (res_of ls.so) at2 ?_
      refine wa_nil (.ok ls.pr w2 hn2 hg ?_)
      rw [w3]
      have ls := ls.price (putKd (.inr nm) (rat C p q) kn rs')
      generalize δ9.set (δ.length + 3) (some (.dct kn (putKd (.inr nm) (rat C p q) kn rs'))) = δ10 at ls
      generalize putKd (.inr nm) (rat C p q) kn rs' = rs2 at gd2 ls hn2
      generalize ds'.set x.toNat d = ds2 at gd2 ls at2
      obtain ⟨a0, r0, s0, ha0, g0⟩ := ls.st
      walk_at "ww"
      refine .mk g0 ha0 fun o a3 r3 s3 ho ha3 => ?_
      have ls := ls.draw (a := a3) (r := r3) (s := s3) ha3
      clear g0
      generalize δ10.set δ.length (some (stD zs a3 r3 s3)) = δ11 at ls
      obtain ⟨a0, r0, s0, ha0, g0⟩ := ls.st
      walk_at "ww"
      refine .mk g0 ha0 (by decide) (by decide) fun y a4 r4' s4 hy0 hy1 ha4 => ?_
      have ls := ls.draw (a := a4) (r := r4') (s := s4) ha4
      clear g0
      generalize δ11.set δ.length (some (stD zs a4 r4' s4)) = δ12 at ls
      obtain ⟨nm2, v1, v2, v3, v4, v5⟩ := word_at gd2 hy0 hy1
      refine ix_lst rfl v1 ?_
      walk_at "ww"
      refine .bad ls.pr v2 ho ?_
      walk_at "ww"
      obtain ⟨d0, p0, q0, e0, h0⟩ := gd2.get (i := 0) (by decide) (by decide)
      refine ix_lst (res_of ls.so) e0 ?_
      refine wa_nil (.no ls.pr (no_price gd2.four) ?_)
      walk_at "ww"
      refine ix_lst (res_of ls.so) e0 ?_
      refine wa_nil (.non ls.pr ?_)
      walk_at "ww"
      refine .mk ls.pr gd2.four ?_
      walk_at "ww"
      refine cmp_neR (rcB_goods true gd2.self gd2 rfl (res_of ls.so) X.eqR X.T X.hs) r5 ?_
      rw [goods_eq gd2]
      obtain ⟨a0, r0, s0, ha0, g0⟩ := ls.st
      walk_at "ww"
      refine .mk g0 ha0 (by decide) (by decide) fun l a5 r5' s5 hl0 hl1 ha5 => ?_
      have ls := ls.draw (a := a5) (r := r5') (s := s5) ha5
      clear g0
      generalize δ12.set δ.length (some (stD zs a5 r5' s5)) = δ13 at ls
      refine wss_cons (ws_setLc 13 rfl nd rfl rfl rfl (own := [("_law_k", 9)]) (show BlkOk n_law (defScope s_law) _ _ from ⟨rfl, by decide +kernel, by decide +kernel, by decide +kernel, by decide +kernel⟩) (wi_range1 b3 (wa_cons (we_int (wa_nil ⟨4, rfl, ⟨by decide, by decide⟩, ?_⟩)))))
      refine ⟨(by decide : 4 ≤ sizeLine), fun k ac δ' => LS CQ δ δ' zs ds2 rs2 rs lj (lj + 1) ∧ ac.length = k ∧ BadAt ds2 o l ac, ⟨ls, rfl, fun j e z => by simp at z⟩, fun _ _ _ _ _ => trivial, ?_, ?_⟩
      · clear ls
        rintro k d ac δ14 hd ⟨ls, hk, hba⟩ _ _ _ _ _ _ _ _
        obtain ⟨hk4, rfl⟩ := rangeD_at hd
        subst hk
        refine wgv_name 9 ?_ (by decide) nd rfl (by first | exact Or.inl rfl | exact Or.inr rfl) (by first | exact .inl rfl | exact .inr rfl)
        intro _ _ _ _ _ _ _ _
        refine wts_nil ⟨fun _ => ?_, fun z => nomatch z⟩
        intro _ _ _ _ _ _ _ _
        have hk4 : ac.length < 4 := hk4
        obtain ⟨dk, pk, qk, ek, hgk⟩ := gd2.get (i := 0 + (ac.length : Int)) (by omega) (by omega)
        have dk2 : ds2[ac.length]? = some dk := by
          have : ixN ds2.length (0 + (ac.length : Int)) = some ac.length := by
            unfold ixN; rw [if_pos (by omega), if_pos (by rw [gd2.len]; omega)]; congr 1; omega
          unfold atI at ek; rw [this] at ek; exact ek
        walk_at "ww"
        refine ⟨fun he => ?_, fun he => ?_⟩
        · have he : 0 + (ac.length : Int) = l := of_decide_eq_true he
          walk_at "ww"
          exact ⟨ho.isAl, ls, by simp, badAt_snoc hba (fun z => absurd z (by omega)) (fun _ => rfl) (fun z => absurd z (by omega))⟩
        · have he : ¬ (0 + (ac.length : Int) = l) := of_decide_eq_false he
          walk_at "ww"
          refine ⟨fun hgt => ?_, fun hgt => ?_⟩
          · have hgt : l < 0 + (ac.length : Int) := of_decide_eq_true hgt
            obtain ⟨a0, r0, s0, ha0, g0⟩ := ls.st
            walk_at "ww"
            refine .mk g0 ha0 (by decide) (by decide) fun y2 a6 r6 s6 hz0 hz1 ha6 => ?_
            have ls := ls.draw (a := a6) (r := r6) (s := s6) ha6
            clear g0
            generalize δ14.set δ.length (some (stD zs a6 r6 s6)) = δ15 at ls
            walk_at "ww"
            refine ⟨fun h5 => ?_, fun h5 => ?_⟩
            · walk_at "ww"
              exact ⟨ho.isAl, ls, by simp, badAt_snoc hba (fun z => absurd z (by omega)) (fun z => absurd z (by omega)) (fun _ => .inl rfl)⟩
            · walk_at "ww"
              exact ix_lst (res_of ls.so) ek ⟨hgk.isAl, ls, by simp, badAt_snoc hba (fun _ => dk2) (fun z => absurd z (by omega)) (fun _ => .inr dk2)⟩
          · have hgt : ¬ (l < 0 + (ac.length : Int)) := of_decide_eq_false hgt
            walk_at "ww"
            exact ix_lst (res_of ls.so) ek ⟨hgk.isAl, ls, by simp, badAt_snoc hba (fun _ => dk2) (fun z => absurd z (by omega)) (fun z => absurd z (by omega))⟩
      · clear ls
        rintro ac δ15 ⟨ls, hlen, hba⟩
        refine .inl ?_
        have hlen : ac.length = 4 := hlen
        obtain ⟨e0', e1', e2', e3', rfl⟩ : ∃ d1 d2 d3 d4, ac = [d1, d2, d3, d4] := by
          match ac, hlen with
          | [d1, d2, d3, d4], _ => exact ⟨d1, d2, d3, d4, rfl⟩
        obtain ⟨nm3, u1, u2, u3, u4, u5, u6⟩ := firstBad_of gd2 ho hl0 hl1 hba
        have unmade := X.unmade
        walk_at "ww"
        refine .mk u2 u3 u4 u5 u6 ?_
        walk_at "ww"
        refine ix_lst rfl u1 ?_
        refine cmp_neS ?_
        rw [decide_eq_true rfl]
        walk_at "ww"
        exact ⟨ds2, rs2, _, _, _, _, _, gd2, ls, rfl⟩
    · rename_i ls0
      rintro _ δ' ⟨ds', rs', x9, x10, x11, x12, x13, gd, ls, rfl⟩
      have r6 : Room 6 _ := hr.mono (by decide)
      have r7 : Room 7 _ := hr.mono (by decide)
      have eqP := X.eqP
      have copied := X.copied
      have mk4 := X.mk4
      refine wss_cons (ws_if ?_)
      walk_at "ww"
      refine .mk ls.lk gg.four ?_
      walk_at "ww"
      refine cmp_neR (rcB_goods true gg.self gg rfl rfl X.eqR X.T X.hs) r5 ?_
      rw [goods_eq gg]
      walk_at "ww"
      refine cmp_own eqP r6 (res_of ls.lk.o) (.same (res_of ls.pr.o)) X.TQ.nfC (.two ls.lk ls.pr (by have := ls.hj; omega) gg.four gd.four ?_)
      walk_at "ww"
      refine cmp_eqR (rcB_goods false gg gd rfl (res_of ls.so) X.eqR X.T X.hs) r5 ?_
      rw [goods_dct gg gd]
      walk_at "ww"
      rw [decide_eq_true rfl]
      walk_at "ww"
      refine we_mt0 copied (hr.mono (by decide)) (we_name rfl rfl ⟨_, _, res_of ls.lk.o, rfl, .mk ls.lk gg.four ?_⟩)
      have hlt : lj + 1 < δ'.length := (List.getElem?_eq_some_iff.mp ls.lk.d).1
      refine cmp_neR (rcB_ins true eqP X.TQ.eqT (res_of ls.lk.app.o) (.same (res_of isPr_new.o)) X.TQ.nfC (.two ls.lk.app isPr_new (by omega) gg.four gg.four ⟨rfl, rfl⟩) SpPEq.monoT) r7 ?_
      rw [goods_refl gg]
      have ls := ls.app (newPr CQ δ'.length rs)
      generalize δ' ++ newPr CQ δ'.length rs = δ16 at ls
      cases gd with
      | @mk d1 d2 d3 d4 p1 q1 p2 q2 p3 q3 p4 q4 h1 h2 h3 h4 =>
      have gd : Goods C [d1, d2, d3, d4] [rat C p1 q1, rat C p2 q2, rat C p3 q3, rat C p4 q4] := ⟨h1, h2, h3, h4⟩
      walk_at "ww"
      refine we_newK mk4 (hr.mono (by decide)) ?_
      refine wk_cons (we_ix (we_name rfl rfl (we_int (ix_lst (res_of ls.so) rfl ?_))))
      refine wk_cons (we_ix (we_name rfl rfl (we_int (ix_lst (res_of ls.so) rfl ?_))))
      refine wk_cons (we_ix (we_name rfl rfl (we_int (ix_lst (res_of ls.so) rfl ?_))))
      refine wk_cons (we_ix (we_name rfl rfl (we_int (ix_lst (res_of ls.so) rfl ?_))))
      refine wk_nil ⟨rfl, .ok get_lastD h1 h2 h3 h4 ⟨rfl, ?_⟩⟩
      rw [new_pr]
      have hlt : δ.length + 3 < δ16.length := (List.getElem?_eq_some_iff.mp ls.pr.d).1
      refine cmp_own eqP r6 (res_of ls.pr.app.o) (.same (res_of isPr_new.o)) X.TQ.nfC (.two ls.pr.app isPr_new (by omega) gd.four gd.four ?_)
      rw [goods_refl gd]
      have ls := ls.app (newPr CQ δ16.length [rat C p1 q1, rat C p2 q2, rat C p3 q3, rat C p4 q4])
      generalize δ16 ++ newPr CQ δ16.length [rat C p1 q1, rat C p2 q2, rat C p3 q3, rat C p4 q4] = δ17 at ls
      walk_at "ww"
      refine cmp_neR (rcB_ins true eqP X.TQ.eqT (res_of ls.pr.o) (.ty (tyD_nm rfl).1) X.TQ.nfI (.no ⟨rfl, rfl⟩) SpPEq.monoT) r7 ?_
      obtain ⟨ε, e⟩ := ls.tk
      exact ⟨δ, ε, by rw [e]; exact .refl, Nat.le_refl _, hsc, (fun _ z => by cases z), k⟩
end
end K53
namespace K53
open PySem PySem.Spec PyProof.Rows L2 PV
abbrev pkw : List (Str × V) := [("lost", .int 1), ("surplus", .int 1), ("value", .int 1), ("junction", .int 1)]
abbrev pps'' : List Str := ["self", "lost", "surplus", "value", "junction"]
def gJ' {α : Type} : List α → List α → List α → List α
  | [d], _, [j, v, l, s] => [d, l, s, v, j]
  | _, _, _ => []
def gV' {α : Type} : List α → List α → List α → List α
  | [d], [l, s, j], [v] => [d, l, s, v, j]
  | _, _, _ => []
section
variable {P : Program} {w : World} {K : PySem.W.Frag} {mg : Str → Option Value} {base : Heap} {f C CI CN CP CQ : Addr} {fd : FuncData}
theorem J1 (D : Addr) (doc pm : Value) (an : Option Addr) (cdv ct : Value) (d j v l s : Value) : bindArgs (PySem.W.fnOf "__init__" "Prices.__init__" (defArgs s_Prices_init) (defBody s_Prices_init) (defScope s_Prices_init) .none (.ref D) doc pm an cdv ct) ⟨[d], (["junction", "value", "lost", "surplus"] : List Str).zip [j, v, l, s]⟩ = pure (pps.zip [d, l, s, v, j]) := by
  rfl
theorem V1 (D : Addr) (doc pm : Value) (an : Option Addr) (cdv ct : Value) (d j v l s : Value) : KwChain D ((["lost", "surplus", "junction"] : List Str).zip [l, s, j]) (bindArgs (PySem.W.fnOf "__init__" "Prices.__init__" (defArgs s_Prices_init) (defBody s_Prices_init) (defScope s_Prices_init) .none (.ref D) doc pm an cdv ct) ⟨[d], (["value"] : List Str).zip [v]⟩) (pps.zip [d, l, s, v, j]) := by
  refine ⟨_, _, _, _, _, _, rfl, rfl, ?_⟩
  refine ⟨_, _, _, _, _, _, rfl, rfl, ?_⟩
  refine ⟨_, _, _, _, _, _, rfl, rfl, ?_⟩
  rfl
theorem Z1 (D : Addr) (doc pm : Value) (an : Option Addr) (cdv ct : Value) (d j v l s : Value) : KwChain D ((["lost", "surplus", "value", "junction"] : List Str).zip [l, s, v, j]) (bindArgs (PySem.W.fnOf "__init__" "Prices.__init__" (defArgs s_Prices_init) (defBody s_Prices_init) (defScope s_Prices_init) .none (.ref D) doc pm an cdv ct) ⟨[d], []⟩) (pps.zip [d, l, s, v, j]) := by
  refine ⟨_, _, _, _, _, _, rfl, rfl, ?_⟩
  refine ⟨_, _, _, _, _, _, rfl, rfl, ?_⟩
  refine ⟨_, _, _, _, _, _, rfl, rfl, ?_⟩
  refine ⟨_, _, _, _, _, _, rfl, rfl, ?_⟩
  rfl
theorem mkR2 (F : FunD K "__init__" "Ratio.__init__" (defArgs s_Ratio_init) (defBody s_Ratio_init) (defScope s_Ratio_init) [.int 1] [] f fd) (M : Mk K C f) (mgC : mg "Ratio" = some (.ref C)) (G : FnOk P w K mg base (L2.CX P w) 3 f fd ["self", "top", "bottom"] (spOf K (SpInit C CI CN K))) : MkD P w K mg base 3 C "Ratio" ["self", "top", "bottom"] [] (SpInit C CI CN K) := by
  obtain ⟨ds, hv, hb⟩ := F.binds1 (ps := ["self", "top", "bottom"]) 3 1 (by simp) (by decide) (fun T kV doc pm an cdv ct us its l2 l1 => match us, its, l2, l1 with | [_, _, _], [_], _, _ => ⟨_, rfl, rfl⟩)
  exact ⟨mgC, f, fd, ds, _, M, G, hb, hv, fun F => Reps.nil⟩
theorem mkR1 (F : FunD K "__init__" "Ratio.__init__" (defArgs s_Ratio_init) (defBody s_Ratio_init) (defScope s_Ratio_init) [.int 1] [] f fd) (M : Mk K C f) (mgC : mg "Ratio" = some (.ref C)) (G : FnOk P w K mg base (L2.CX P w) 3 f fd ["self", "top", "bottom"] (spOf K (SpInit C CI CN K))) : MkD P w K mg base 3 C "Ratio" ["self", "top", "bottom"] [.int 1] (SpInit C CI CN K) := by
  obtain ⟨ds, hv, hb⟩ := F.binds1 (ps := ["self", "top", "bottom"]) 2 0 (by simp) (by decide) (fun T kV doc pm an cdv ct us its l2 l1 => match us, its, l2, l1 with | [_, _], [_], _, _ => ⟨_, rfl, rfl⟩)
  exact ⟨mgC, f, fd, ds, _, M, G, hb, hv, fun F => Reps.cons (by rw [Rep]) Reps.nil⟩
theorem mk4_of (F : FunD K "__init__" "Prices.__init__" (defArgs s_Prices_init) (defBody s_Prices_init) (defScope s_Prices_init) [] pkw f fd) (M : Mk K CQ f) (mgC : mg "Prices" = some (.ref CQ)) (G : FnOk P w K mg base (L2.CX P w) 9 f fd pps (spOf K (SpPInit C CP CQ K))) : MkK P w K mg base 9 CQ "Prices" ["lost", "surplus", "value", "junction"] (fun d ds => d :: ds) pps (SpPInit C CP CQ K) := by
  obtain ⟨mv, hb⟩ := F.kbinds0 (ps := pps) 1 ["lost", "surplus", "value", "junction"] [] (fun us _ ws => us ++ ws) (by simp) (by simp) (fun r1 _ r3 => r1.append r3) (fun D doc pm an cdv ct us mv ws l1 _ l3 => match us, ws, l1, l3 with | [_], [_, _, _, _], _, _ => rfl)
  exact ⟨mgC, f, fd, _, _, M, G, hb, fun γ F d ds v vs r rs _ => RTs.cons r rs⟩
theorem valsJ {vs mz zs : List V} {us mv ws : List Value} (r1 : Vals vs us) (r2 : Vals mz mv) (r3 : Vals zs ws) : Vals (gJ' vs mz zs) (gJ' us mv ws) := by
  cases r1 with
  | nil => exact .nil
  | cons a1 r1 =>
    cases r1 with
    | cons _ _ => exact .nil
    | nil =>
      cases r3 with
      | nil => exact .nil
      | cons b1 r3 =>
        cases r3 with
        | nil => exact .nil
        | cons b2 r3 =>
          cases r3 with
          | nil => exact .nil
          | cons b3 r3 =>
            cases r3 with
            | nil => exact .nil
            | cons b4 r3 =>
              cases r3 with
              | cons _ _ => exact .nil
              | nil => exact .cons a1 (.cons b3 (.cons b4 (.cons b2 (.cons b1 .nil))))
theorem J2 (D : Addr) (doc pm : Value) (an : Option Addr) (cdv ct : Value) (mv : List Value) (d j v l s : Value) : KwChain D (((([] : List (Str × V)).map (·.1)).zip mv)) (bindArgs (PySem.W.fnOf "__init__" "Prices.__init__" (defArgs s_Prices_init) (defBody s_Prices_init) (defScope s_Prices_init) .none (.ref D) doc pm an cdv ct) ⟨[d], (["junction", "value", "lost", "surplus"] : List Str).zip [j, v, l, s]⟩) (pps.zip (gJ' [d] mv [j, v, l, s])) := by
  have e : (((([] : List (Str × V)).map (·.1)).zip mv) : List (Str × Value)) = [] := rfl
  have e2 : gJ' [d] mv [j, v, l, s] = [d, l, s, v, j] := rfl
  rw [e, e2, KwChain]
  exact J1 D doc pm an cdv ct d j v l s
theorem mkJ_of (F : FunD K "__init__" "Prices.__init__" (defArgs s_Prices_init) (defBody s_Prices_init) (defScope s_Prices_init) [] pkw f fd) (M : Mk K CQ f) (mgC : mg "Prices" = some (.ref CQ)) (G : FnOk P w K mg base (L2.CX P w) 9 f fd pps (spOf K (SpPInit C CP CQ K))) : MkK P w K mg base 9 CQ "Prices" ["junction", "value", "lost", "surplus"] gJ pps (SpPInit C CP CQ K) := by
  obtain ⟨mv, hb⟩ := F.kbinds0 (ps := pps) 1 ["junction", "value", "lost", "surplus"] [] gJ' (by simp) (by simp) valsJ (fun D doc pm an cdv ct us mv ws l1 _ l3 => match us, ws, l1, l3 with | [d], [j, v, l, s], _, _ => J2 D doc pm an cdv ct mv d j v l s)
  refine ⟨mgC, f, fd, _, _, M, G, hb, fun γ F d ds v vs r rs l => ?_⟩
  obtain ⟨d1, d2, d3, d4, rfl⟩ : ∃ d1 d2 d3 d4, ds = [d1, d2, d3, d4] := by
    match ds, l with
    | [d1, d2, d3, d4], _ => exact ⟨_, _, _, _, rfl⟩
  obtain ⟨x1, _, rfl, r1, rs⟩ := rs
  obtain ⟨x2, _, rfl, r2, rs⟩ := rs
  obtain ⟨x3, _, rfl, r3, rs⟩ := rs
  obtain ⟨x4, _, rfl, r4, rs⟩ := rs
  cases rs
  exact RTs.cons r (RTs.cons r3 (RTs.cons r4 (RTs.cons r2 (RTs.cons r1 RTs.nil))))
theorem valsV {vs mz zs : List V} {us mv ws : List Value} (r1 : Vals vs us) (r2 : Vals mz mv) (r3 : Vals zs ws) : Vals (gV' vs mz zs) (gV' us mv ws) := by
  cases r1 with
  | nil => exact .nil
  | cons a1 r1 =>
    cases r1 with
    | cons _ _ => exact .nil
    | nil =>
      cases r2 with
      | nil => exact .nil
      | cons b1 r2 =>
        cases r2 with
        | nil => exact .nil
        | cons b2 r2 =>
          cases r2 with
          | nil => exact .nil
          | cons b3 r2 =>
            cases r2 with
            | cons _ _ => exact .nil
            | nil =>
              cases r3 with
              | nil => exact .nil
              | cons c1 r3 =>
                cases r3 with
                | cons _ _ => exact .nil
                | nil => exact .cons a1 (.cons b1 (.cons b2 (.cons c1 (.cons b3 .nil))))
theorem mkV_of (F : FunD K "__init__" "Prices.__init__" (defArgs s_Prices_init) (defBody s_Prices_init) (defScope s_Prices_init) [] pkw f fd) (M : Mk K CQ f) (mgC : mg "Prices" = some (.ref CQ)) (G : FnOk P w K mg base (L2.CX P w) 9 f fd pps (spOf K (SpPInit C CP CQ K))) : MkK P w K mg base 9 CQ "Prices" ["value"] gV pps (SpPInit C CP CQ K) := by
  obtain ⟨mv, hb⟩ := F.kbinds0 (ps := pps) 1 ["value"] [("lost", .int 1), ("surplus", .int 1), ("junction", .int 1)] gV' (by simp) (by simp) valsV (fun D doc pm an cdv ct us mv ws l1 l2 l3 => match us, mv, ws, l1, l2, l3 with | [d], [l, s, j], [v], _, _, _ => V1 D doc pm an cdv ct d j v l s)
  refine ⟨mgC, f, fd, _, _, M, G, hb, fun γ F d ds v vs r rs l => ?_⟩
  match ds, vs, rs, l with
  | [d1], _, ⟨x1, _, rfl, r1, rfl⟩, _ => exact RTs.cons r (RTs.cons rt_int (RTs.cons rt_int (RTs.cons r1 (RTs.cons rt_int RTs.nil))))
theorem mk0_of (F : FunD K "__init__" "Prices.__init__" (defArgs s_Prices_init) (defBody s_Prices_init) (defScope s_Prices_init) [] pkw f fd) (M : Mk K CQ f) (mgC : mg "Prices" = some (.ref CQ)) (G : FnOk P w K mg base (L2.CX P w) 9 f fd pps (spOf K (SpPInit C CP CQ K))) : MkD P w K mg base 9 CQ "Prices" pps [.int 1, .int 1, .int 1, .int 1] (SpPInit C CP CQ K) := by
  obtain ⟨ds, hv, hb⟩ := F.binds0 (ps := pps) 1 (by simp) rfl (fun D doc pm an cdv ct us ks l1 l2 => match us, ks, l1, l2 with | [d], [l, s, v, j], _, _ => Z1 D doc pm an cdv ct d j v l s)
  exact ⟨mgC, f, fd, ds, _, M, G, hb, hv, fun F => Reps.cons (by rw [Rep]) (Reps.cons (by rw [Rep]) (Reps.cons (by rw [Rep]) (Reps.cons (by rw [Rep]) Reps.nil)))⟩
end
end K53
namespace K53
open PySem PySem.Spec PyProof.Rows L2 PV WE
theorem kit_self {K : PySem.W.Frag} {C : Addr} : PySem.W.kitOne K (.ref C) (.ref C) = some true := by
  unfold PySem.W.kitOne
  rw [if_pos (by simp)]
theorem kit_own {K : PySem.W.Frag} {C : Addr} {T : String} {b : Bool} (h2 : PySem.W.isClsIn K C = true) (h3 : PySem.W.typeIn K (.ref C) = some (.type "type")) (h4 : PySem.W.subIn K (.type T) (.ref C) = some b) : PySem.W.kitOne K (.type T) (.ref C) = some b := by
  unfold PySem.W.kitOne
  rw [if_neg (by simp)]
  have h2' : (PySem.W.clsIn K C).isSome = true := h2
  show (if ((PySem.W.clsIn K C).isSome && PySem.W.typeIn K (.ref C) == some (.type "type")) = true then PySem.W.subIn K (.type T) (.ref C) else none) = some b
  rw [h2', h3, if_pos (by simp)]
  exact h4
theorem kit_oo {K : PySem.W.Frag} {C C' : Addr} {b : Bool} (hne : C' ≠ C) (h2 : PySem.W.isClsIn K C = true) (h3 : PySem.W.typeIn K (.ref C) = some (.type "type")) (h4 : PySem.W.subIn K (.ref C') (.ref C) = some b) : PySem.W.kitOne K (.ref C') (.ref C) = some b := by
  unfold PySem.W.kitOne
  rw [if_neg (by simpa using hne)]
  have h2' : (PySem.W.clsIn K C).isSome = true := h2
  show (if ((PySem.W.clsIn K C).isSome && PySem.W.typeIn K (.ref C) == some (.type "type")) = true then PySem.W.subIn K (.ref C') (.ref C) else none) = some b
  rw [h2', h3, if_pos (by simp)]
  exact h4
theorem kit_bt {K : PySem.W.Frag} {C : Addr} {t : String} {b : Bool} (hm : PySem.W.kitMeta t = true) (h : PySem.W.subIn K (.ref C) (.type t) = some b) : PySem.W.kitOne K (.ref C) (.type t) = some b := by
  unfold PySem.W.kitOne
  rw [if_neg (by simp)]
  show (if PySem.W.kitMeta t = true then PySem.W.subIn K (.ref C) (.type t) else none) = some b
  rw [if_pos hm]
  exact h
section
variable {P : Program} {w : World} {K : PySem.W.Frag} {mg : Str → Option Value} {base : Heap} {f C CI W : Addr} {fd : FuncData} {st : Stmt} {x : Str} {ps : List Str} {S : DSp} {k : Nat}
theorem fnD_of {q : Str} (F : Fun K x q st f fd) (hm : mg x = some (.ref f)) (b : L2.Binds K fd ps []) (G : FnOk P w K mg base (L2.CX P w) k f fd ps (spOf K S)) : FnD P w K mg base k x ps [] S :=
  ⟨⟨f, fd, [], [], hm, F.kp, G, b, .nil, fun F => Reps.nil⟩⟩
theorem mtD_of {q : Str} (F : Fun K x q st f fd) (cl : Cls K C) (a : PySem.W.findIn K (.ref C) x = some (some (.ref f))) (i : PySem.W.isFn K (.ref f) = true) (b : L2.Binds K fd ps []) (G : FnOk P w K mg base (L2.CX P w) k f fd ps (spOf K S)) : MtD P w K mg base k C x ps [] S :=
  ⟨⟨f, fd, [], [], ⟨a, i, F.kp⟩, G, b, .nil, fun F => Reps.nil⟩, cl⟩
theorem prD_of {q : Str} {p : Addr} {r : List Value} (F : Fun K x q st f fd) (cl : Cls K C) (a : PySem.W.findIn K (.ref C) x = some (some (.ref p))) (g : PySem.W.specialIn K (.ref p) "__get__" = some (some (.builtin "property.__get__"))) (t : PySem.W.takesIn K (.ref p) = some true) (rc : PySem.W.recIn K p "property" = some (.ref f :: r)) (b : L2.Binds K fd ["self"] []) (G : FnOk P w K mg base (L2.CX P w) k f fd ["self"] (spOf K S)) : PrD P w K mg base k C x S :=
  ⟨cl, p, f, fd, ⟨a, g, t, _, rc⟩, G, b⟩
theorem reps_ints {F : Hp} : ∀ ns : List Int, Reps K F (ns.map D.int) (ns.map V.int)
  | [] => Reps.nil
  | n :: ns => Reps.cons (by rw [Rep]) (reps_ints ns)
/-- an error class: its __init__ is W.__init__(self, given); self.given = given -/
structure ErTxt (K : PySem.W.Frag) (mg : Str → Option Value) (C W : Addr) (fI : Addr) : Prop where
  up : UpTxt K mg "WireError" W
  oex : OexC K C
  xf : XfC K C
  no : PySem.W.findIn K (.ref C) "given" = some none
  hI : PySem.W.findIn K (.ref C) "__init__" = some (some (.ref fI))
  tI : PySem.W.typeIn K (.ref fI) = some (.type "function")
end

theorem ok_err_InvalidPrices {P : Program} {w : World} {K : PySem.W.Frag} {mg : Str → Option Value} {base : Heap} {f C W : Addr} {fd : FuncData} (F : Fun K "__init__" "InvalidPrices.__init__" s_InvalidPrices_init f fd) (T : ErTxt K mg C W f) : FnOk P w K mg base CX0 1 f fd ["self", "given"] (WE.spErr C) := by
  refine F.ok sc_InvalidPrices_init (fun vs H Q E h => ?_) (fun cdv A outer s H vs Q E hr h => ?_)
  · obtain ⟨a, v, rfl, _⟩ := h
    rfl
  · obtain ⟨a, v, rfl, ha, k⟩ := h
    refine ⟨_, pss_cons (ps_expr (WE.pe_weinit (by rfl) T.up (pa_cons (pv 0) (pa_cons (pv 1) pa_nil)))) (pss_one (ps_ost (pv 0) (pv 1))), ?_⟩
    refine ⟨_, rfl, _, rfl, a, C, [v], rfl, by show 1 ≤ 1000; decide, T.oex, ha, ?_⟩
    exact ⟨_, rfl, _, rfl, a, C, rfl, T.oex, T.no, .inl ⟨ha, fun dx hn hne => k dx hn hne⟩⟩
theorem all_mk {l : PySem.W.OpenLaw} {w : World} {K : PySem.W.Frag} {h : Heap} {mg : Str → Option Value} {fa C_Ratio C_Prices C_InvalidPrices C_WireError f1 f2 f3 Td4 f4 f5 f6 f7 f8 Dk9 f9 p10 f10 p11 f11 p12 f12 p13 f13 f14 f15 f16 f17 f18 f19 f20 f21 f22 f23 f24 : Addr} {rs10 rs11 rs12 rs13 : List Value} (X : K.In h) (G : h.Ns mainGlobals mg) (hfa : mg "law" = some (.ref fa))
    {nm_InvalidPrices q_InvalidPrices : Str} {N_InvalidPrices : Addr} {bs_InvalidPrices : List Value} {sn_InvalidPrices : List Str} {sub_InvalidPrices : List Value} {ab_InvalidPrices : Bool} {col_InvalidPrices : Option Bool} {dd_InvalidPrices : Option Addr} {m0_InvalidPrices m1_InvalidPrices m2_InvalidPrices m3_InvalidPrices m5_InvalidPrices : Option Value}
    {od1 an1 : Option Addr} {sl1 : Array (Option Value)} {oc1 kV1 dc1 pm1 cd1 ct1 : Value}
    {od2 an2 : Option Addr} {sl2 : Array (Option Value)} {oc2 kV2 dc2 pm2 cd2 ct2 : Value}
    {od3 an3 : Option Addr} {sl3 : Array (Option Value)} {oc3 kV3 dc3 pm3 cd3 ct3 : Value}
    {ocT4 : Value} {odT4 : Option Addr} {tD4_0 : Tok} {nT4 : Nat} {slT4 : Array (Option Value)}
    {od4 an4 : Option Addr} {sl4 : Array (Option Value)} {oc4 kV4 dc4 pm4 cd4 ct4 : Value}
    {od5 an5 : Option Addr} {sl5 : Array (Option Value)} {oc5 kV5 dc5 pm5 cd5 ct5 : Value}
    {od6 an6 : Option Addr} {sl6 : Array (Option Value)} {oc6 kV6 dc6 pm6 cd6 ct6 : Value}
    {od7 an7 : Option Addr} {sl7 : Array (Option Value)} {oc7 kV7 dc7 pm7 cd7 ct7 : Value}
    {od8 an8 : Option Addr} {sl8 : Array (Option Value)} {oc8 kV8 dc8 pm8 cd8 ct8 : Value}
    {tD9_0 tD9_1 tD9_2 tD9_3 : Tok}
    {od9 an9 : Option Addr} {sl9 : Array (Option Value)} {oc9 dc9 pm9 cd9 ct9 : Value}
    {od10 an10 : Option Addr} {sl10 : Array (Option Value)} {oc10 kV10 dc10 pm10 cd10 ct10 : Value}
    {od11 an11 : Option Addr} {sl11 : Array (Option Value)} {oc11 kV11 dc11 pm11 cd11 ct11 : Value}
    {od12 an12 : Option Addr} {sl12 : Array (Option Value)} {oc12 kV12 dc12 pm12 cd12 ct12 : Value}
    {od13 an13 : Option Addr} {sl13 : Array (Option Value)} {oc13 kV13 dc13 pm13 cd13 ct13 : Value}
    {od14 an14 : Option Addr} {sl14 : Array (Option Value)} {oc14 kV14 dc14 pm14 cd14 ct14 : Value}
    {od15 an15 : Option Addr} {sl15 : Array (Option Value)} {oc15 kV15 dc15 pm15 cd15 ct15 : Value}
    {od16 an16 : Option Addr} {sl16 : Array (Option Value)} {oc16 kV16 dc16 pm16 cd16 ct16 : Value}
    {od17 an17 : Option Addr} {sl17 : Array (Option Value)} {oc17 kV17 dc17 pm17 cd17 ct17 : Value}
    {od18 an18 : Option Addr} {sl18 : Array (Option Value)} {oc18 kV18 dc18 pm18 cd18 ct18 : Value}
    {od19 an19 : Option Addr} {sl19 : Array (Option Value)} {oc19 kV19 dc19 pm19 cd19 ct19 : Value}
    {od20 an20 : Option Addr} {sl20 : Array (Option Value)} {oc20 kV20 dc20 pm20 cd20 ct20 : Value}
    {od21 an21 : Option Addr} {sl21 : Array (Option Value)} {oc21 kV21 dc21 pm21 cd21 ct21 : Value}
    {od22 an22 : Option Addr} {sl22 : Array (Option Value)} {oc22 kV22 dc22 pm22 cd22 ct22 : Value}
    {od23 an23 : Option Addr} {sl23 : Array (Option Value)} {oc23 kV23 dc23 pm23 cd23 ct23 : Value}
    {od24 an24 : Option Addr} {sl24 : Array (Option Value)} {oc24 kV24 dc24 pm24 cd24 ct24 : Value}
    (hn0 : PySem.W.specialIn K (.builtin "object.__class__") "__get__" = some (some (.builtin "getset_descriptor.__get__")))
    (ht0 : PySem.W.takesIn K (.builtin "object.__class__") = some true)
    (a_Ratio : PySem.W.nsIn K mainGlobals "Ratio" = some (some (.ref C_Ratio)))
    (pg_Ratio : PySem.W.plainGet K C_Ratio Str.empty = true)
    (hd_Ratio : PySem.W.hasDictIn K C_Ratio = true)
    (po_Ratio : PySem.W.plainOver K C_Ratio = true)
    (sa_Ratio : PySem.W.findIn K (.ref C_Ratio) "__setattr__" = some (some (.builtin "object.__setattr__")))
    (ha_Ratio : PySem.W.findIn K (.ref C_Ratio) "__class__" = some (some (.builtin "object.__class__")))
    (hm_Ratio : PySem.W.mroIn K C_Ratio (.type "object") = some true)
    (kc_Ratio : PySem.W.keepIn K (.ref C_Ratio) = true)
    (mk_Ratio : PySem.W.makesIn K C_Ratio = true)
    (iC_Ratio : PySem.W.isClsIn K C_Ratio = true)
    (tC_Ratio : PySem.W.typeIn K (.ref C_Ratio) = some (.type "type"))
    (n_Ratio_top : PySem.W.findIn K (.ref C_Ratio) "top" = some none)
    (n_Ratio_bottom : PySem.W.findIn K (.ref C_Ratio) "bottom" = some none)
    (ne_Ratio : PySem.W.findIn K (.ref C_Ratio) "__ne__" = some (some (.builtin "object.__ne__")))
    (a_Prices : PySem.W.nsIn K mainGlobals "Prices" = some (some (.ref C_Prices)))
    (pg_Prices : PySem.W.plainGet K C_Prices Str.empty = true)
    (hd_Prices : PySem.W.hasDictIn K C_Prices = true)
    (po_Prices : PySem.W.plainOver K C_Prices = true)
    (sa_Prices : PySem.W.findIn K (.ref C_Prices) "__setattr__" = some (some (.builtin "object.__setattr__")))
    (ha_Prices : PySem.W.findIn K (.ref C_Prices) "__class__" = some (some (.builtin "object.__class__")))
    (hm_Prices : PySem.W.mroIn K C_Prices (.type "object") = some true)
    (kc_Prices : PySem.W.keepIn K (.ref C_Prices) = true)
    (mk_Prices : PySem.W.makesIn K C_Prices = true)
    (iC_Prices : PySem.W.isClsIn K C_Prices = true)
    (tC_Prices : PySem.W.typeIn K (.ref C_Prices) = some (.type "type"))
    (n_Prices_known : PySem.W.findIn K (.ref C_Prices) "known" = some none)
    (ne_Prices : PySem.W.findIn K (.ref C_Prices) "__ne__" = some (some (.builtin "object.__ne__")))
    (aW : PySem.W.nsIn K mainGlobals "WireError" = some (some (.ref C_WireError)))
    (wr : PySem.W.readsIn K C_WireError (.type "type") = true)
    (wg : PySem.W.specialIn K (.ref C_WireError) "__getattribute__" = some (some (.builtin "type.__getattribute__")))
    (wi : PySem.W.findCls K (.ref C_WireError) (.type "type") "__init__" = some (.val (.builtin "ValueError.__init__")))
    (iC_WireError : PySem.W.isClsIn K C_WireError = true)
    (tC_WireError : PySem.W.typeIn K (.ref C_WireError) = some (.type "type"))
    (a_InvalidPrices : PySem.W.nsIn K mainGlobals "InvalidPrices" = some (some (.ref C_InvalidPrices)))
    (xL_InvalidPrices : K.lookup C_InvalidPrices = some (excClassObj nm_InvalidPrices q_InvalidPrices C_InvalidPrices N_InvalidPrices bs_InvalidPrices [.ref C_WireError, .type "ValueError", .type "Exception", .type "BaseException", .type "object"] true sn_InvalidPrices sub_InvalidPrices ab_InvalidPrices col_InvalidPrices dd_InvalidPrices m0_InvalidPrices m1_InvalidPrices m2_InvalidPrices m3_InvalidPrices m5_InvalidPrices "ValueError.__new__"))
    (xs_InvalidPrices : PySem.W.findIn K (.ref C_InvalidPrices) "__setattr__" = some (some (.builtin "object.__setattr__")))
    (xb_InvalidPrices : PySem.W.subIn K (.ref C_InvalidPrices) (.type "BaseException") = some true)
    (xt_InvalidPrices : PySem.W.typeIn K (.ref C_InvalidPrices) = some (.type "type"))
    (xk_InvalidPrices : PySem.W.keepIn K (.ref C_InvalidPrices) = true)
    (xn_InvalidPrices : PySem.W.findIn K (.ref C_InvalidPrices) "given" = some none)
    (xg_InvalidPrices : PySem.W.findIn K (.ref C_InvalidPrices) "__getattribute__" = some (some (.builtin "BaseException.__getattribute__")))
    (xh_InvalidPrices : PySem.W.findIn K (.ref C_InvalidPrices) "__getattr__" = some none)
    (xd_InvalidPrices : PySem.W.hasDictIn K C_InvalidPrices = true)
    (xx_InvalidPrices : PySem.W.subIn K (.ref C_InvalidPrices) (.ref C_InvalidPrices) = some true)
    (xa_InvalidPrices : PySem.W.findIn K (.ref C_InvalidPrices) "__class__" = some (some (.builtin "object.__class__")))
    (xm_InvalidPrices : PySem.W.mroIn K C_InvalidPrices (.type "object") = some true)
    (xw_InvalidPrices : PySem.W.subIn K (.ref C_InvalidPrices) (.ref C_WireError) = some true)
    (xne_InvalidPrices : decide (C_InvalidPrices = C_WireError) = false)
    (a1 : PySem.W.findIn K (.ref C_InvalidPrices) "__init__" = some (some (.ref f1)))
    (t1 : PySem.W.typeIn K (.ref f1) = some (.type "function"))
    (l1 : K.lookup f1 = some ⟨oc1, od1, .func (PySem.W.fnOf "__init__" "InvalidPrices.__init__" (defArgs s_InvalidPrices_init) (defBody s_InvalidPrices_init) (defScope s_InvalidPrices_init) .none kV1 dc1 pm1 an1 cd1 ct1), sl1⟩)
    (c1 : PySem.W.codeIn K cd1 "InvalidPrices.__init__" = true)
    (k1 : PySem.W.keepIn K (.ref f1) = true)
    (sb_int_Ratio : PySem.W.subIn K (.type "int") (.ref C_Ratio) = some false)
    (sb_bool_Ratio : PySem.W.subIn K (.type "bool") (.ref C_Ratio) = some false)
    (sb_str_Ratio : PySem.W.subIn K (.type "str") (.ref C_Ratio) = some false)
    (sb_NoneType_Ratio : PySem.W.subIn K (.type "NoneType") (.ref C_Ratio) = some false)
    (sb_int_Prices : PySem.W.subIn K (.type "int") (.ref C_Prices) = some false)
    (su_Ratio_int : PySem.W.subIn K (.ref C_Ratio) (.type "int") = some false)
    (sf : PySem.W.selfFirst K C_Ratio = true)
    (nfI : PySem.W.notFirst K C_Ratio (.type "int") = true)
    (nfC : PySem.W.notFirst K C_Ratio (.ref C_Ratio) = true)
    (pfI : PySem.W.notFirst K C_Prices (.type "int") = true)
    (pfC : PySem.W.notFirst K C_Prices (.ref C_Prices) = true)
    (a2 : PySem.W.nsIn K mainGlobals "greatest_divisor" = some (some (.ref f2)))
    (l2 : K.lookup f2 = some ⟨oc2, od2, .func (PySem.W.fnOf "greatest_divisor" "greatest_divisor" (defArgs s_greatest_divisor) (defBody s_greatest_divisor) (defScope s_greatest_divisor) .none kV2 dc2 pm2 an2 cd2 ct2), sl2⟩)
    (c2 : PySem.W.codeIn K cd2 "greatest_divisor" = true)
    (k2 : PySem.W.keepIn K (.ref f2) = true)
    (a3 : PySem.W.nsIn K mainGlobals "is_integer" = some (some (.ref f3)))
    (l3 : K.lookup f3 = some ⟨oc3, od3, .func (PySem.W.fnOf "is_integer" "is_integer" (defArgs s_is_integer) (defBody s_is_integer) (defScope s_is_integer) .none kV3 dc3 pm3 an3 cd3 ct3), sl3⟩)
    (c3 : PySem.W.codeIn K cd3 "is_integer" = true)
    (k3 : PySem.W.keepIn K (.ref f3) = true)
    (a4 : PySem.W.findIn K (.ref C_Ratio) "__init__" = some (some (.ref f4)))
    (i4 : PySem.W.isFn K (.ref f4) = true)
    (l4 : K.lookup f4 = some ⟨oc4, od4, .func (PySem.W.fnOf "__init__" "Ratio.__init__" (defArgs s_Ratio_init) (defBody s_Ratio_init) (defScope s_Ratio_init) (.ref Td4) kV4 dc4 pm4 an4 cd4 ct4), sl4⟩)
    (c4 : PySem.W.codeIn K cd4 "Ratio.__init__" = true)
    (k4 : PySem.W.keepIn K (.ref f4) = true)
    (lT4 : K.lookup Td4 = some ⟨ocT4, odT4, .seq #[.int 1 tD4_0] nT4, slT4⟩)
    (a5 : PySem.W.nsIn K mainGlobals "as_ratio" = some (some (.ref f5)))
    (l5 : K.lookup f5 = some ⟨oc5, od5, .func (PySem.W.fnOf "as_ratio" "as_ratio" (defArgs s_as_ratio) (defBody s_as_ratio) (defScope s_as_ratio) .none kV5 dc5 pm5 an5 cd5 ct5), sl5⟩)
    (c5 : PySem.W.codeIn K cd5 "as_ratio" = true)
    (k5 : PySem.W.keepIn K (.ref f5) = true)
    (a6 : PySem.W.findIn K (.ref C_Ratio) "__lt__" = some (some (.ref f6)))
    (i6 : PySem.W.isFn K (.ref f6) = true)
    (l6 : K.lookup f6 = some ⟨oc6, od6, .func (PySem.W.fnOf "__lt__" "Ratio.__lt__" (defArgs s_Ratio_lt) (defBody s_Ratio_lt) (defScope s_Ratio_lt) .none kV6 dc6 pm6 an6 cd6 ct6), sl6⟩)
    (c6 : PySem.W.codeIn K cd6 "Ratio.__lt__" = true)
    (k6 : PySem.W.keepIn K (.ref f6) = true)
    (a7 : PySem.W.findIn K (.ref C_Ratio) "__eq__" = some (some (.ref f7)))
    (i7 : PySem.W.isFn K (.ref f7) = true)
    (l7 : K.lookup f7 = some ⟨oc7, od7, .func (PySem.W.fnOf "__eq__" "Ratio.__eq__" (defArgs s_Ratio_eq) (defBody s_Ratio_eq) (defScope s_Ratio_eq) .none kV7 dc7 pm7 an7 cd7 ct7), sl7⟩)
    (c7 : PySem.W.codeIn K cd7 "Ratio.__eq__" = true)
    (k7 : PySem.W.keepIn K (.ref f7) = true)
    (a8 : PySem.W.nsIn K mainGlobals "as_price" = some (some (.ref f8)))
    (l8 : K.lookup f8 = some ⟨oc8, od8, .func (PySem.W.fnOf "as_price" "as_price" (defArgs s_as_price) (defBody s_as_price) (defScope s_as_price) .none kV8 dc8 pm8 an8 cd8 ct8), sl8⟩)
    (c8 : PySem.W.codeIn K cd8 "as_price" = true)
    (k8 : PySem.W.keepIn K (.ref f8) = true)
    (a9 : PySem.W.findIn K (.ref C_Prices) "__init__" = some (some (.ref f9)))
    (i9 : PySem.W.isFn K (.ref f9) = true)
    (l9 : K.lookup f9 = some ⟨oc9, od9, .func (PySem.W.fnOf "__init__" "Prices.__init__" (defArgs s_Prices_init) (defBody s_Prices_init) (defScope s_Prices_init) .none (.ref Dk9) dc9 pm9 an9 cd9 ct9), sl9⟩)
    (c9 : PySem.W.codeIn K cd9 "Prices.__init__" = true)
    (k9 : PySem.W.keepIn K (.ref f9) = true)
    (kd9_0 : PySem.W.nsIn K Dk9 "lost" = some (some (.int 1 tD9_0)))
    (kd9_1 : PySem.W.nsIn K Dk9 "surplus" = some (some (.int 1 tD9_1)))
    (kd9_2 : PySem.W.nsIn K Dk9 "value" = some (some (.int 1 tD9_2)))
    (kd9_3 : PySem.W.nsIn K Dk9 "junction" = some (some (.int 1 tD9_3)))
    (a10 : PySem.W.findIn K (.ref C_Prices) "lost" = some (some (.ref p10)))
    (g10 : PySem.W.specialIn K (.ref p10) "__get__" = some (some (.builtin "property.__get__")))
    (t10 : PySem.W.takesIn K (.ref p10) = some true)
    (r10 : PySem.W.recIn K p10 "property" = some (.ref f10 :: rs10))
    (l10 : K.lookup f10 = some ⟨oc10, od10, .func (PySem.W.fnOf "lost" "Prices.lost" (defArgs s_Prices_lost) (defBody s_Prices_lost) (defScope s_Prices_lost) .none kV10 dc10 pm10 an10 cd10 ct10), sl10⟩)
    (c10 : PySem.W.codeIn K cd10 "Prices.lost" = true)
    (k10 : PySem.W.keepIn K (.ref f10) = true)
    (a11 : PySem.W.findIn K (.ref C_Prices) "surplus" = some (some (.ref p11)))
    (g11 : PySem.W.specialIn K (.ref p11) "__get__" = some (some (.builtin "property.__get__")))
    (t11 : PySem.W.takesIn K (.ref p11) = some true)
    (r11 : PySem.W.recIn K p11 "property" = some (.ref f11 :: rs11))
    (l11 : K.lookup f11 = some ⟨oc11, od11, .func (PySem.W.fnOf "surplus" "Prices.surplus" (defArgs s_Prices_surplus) (defBody s_Prices_surplus) (defScope s_Prices_surplus) .none kV11 dc11 pm11 an11 cd11 ct11), sl11⟩)
    (c11 : PySem.W.codeIn K cd11 "Prices.surplus" = true)
    (k11 : PySem.W.keepIn K (.ref f11) = true)
    (a12 : PySem.W.findIn K (.ref C_Prices) "value" = some (some (.ref p12)))
    (g12 : PySem.W.specialIn K (.ref p12) "__get__" = some (some (.builtin "property.__get__")))
    (t12 : PySem.W.takesIn K (.ref p12) = some true)
    (r12 : PySem.W.recIn K p12 "property" = some (.ref f12 :: rs12))
    (l12 : K.lookup f12 = some ⟨oc12, od12, .func (PySem.W.fnOf "value" "Prices.value" (defArgs s_Prices_value) (defBody s_Prices_value) (defScope s_Prices_value) .none kV12 dc12 pm12 an12 cd12 ct12), sl12⟩)
    (c12 : PySem.W.codeIn K cd12 "Prices.value" = true)
    (k12 : PySem.W.keepIn K (.ref f12) = true)
    (a13 : PySem.W.findIn K (.ref C_Prices) "junction" = some (some (.ref p13)))
    (g13 : PySem.W.specialIn K (.ref p13) "__get__" = some (some (.builtin "property.__get__")))
    (t13 : PySem.W.takesIn K (.ref p13) = some true)
    (r13 : PySem.W.recIn K p13 "property" = some (.ref f13 :: rs13))
    (l13 : K.lookup f13 = some ⟨oc13, od13, .func (PySem.W.fnOf "junction" "Prices.junction" (defArgs s_Prices_junction) (defBody s_Prices_junction) (defScope s_Prices_junction) .none kV13 dc13 pm13 an13 cd13 ct13), sl13⟩)
    (c13 : PySem.W.codeIn K cd13 "Prices.junction" = true)
    (k13 : PySem.W.keepIn K (.ref f13) = true)
    (a14 : PySem.W.findIn K (.ref C_Prices) "change" = some (some (.ref f14)))
    (i14 : PySem.W.isFn K (.ref f14) = true)
    (l14 : K.lookup f14 = some ⟨oc14, od14, .func (PySem.W.fnOf "change" "Prices.change" (defArgs s_Prices_change) (defBody s_Prices_change) (defScope s_Prices_change) .none kV14 dc14 pm14 an14 cd14 ct14), sl14⟩)
    (c14 : PySem.W.codeIn K cd14 "Prices.change" = true)
    (k14 : PySem.W.keepIn K (.ref f14) = true)
    (a15 : PySem.W.findIn K (.ref C_Prices) "copied" = some (some (.ref f15)))
    (i15 : PySem.W.isFn K (.ref f15) = true)
    (l15 : K.lookup f15 = some ⟨oc15, od15, .func (PySem.W.fnOf "copied" "Prices.copied" (defArgs s_Prices_copied) (defBody s_Prices_copied) (defScope s_Prices_copied) .none kV15 dc15 pm15 an15 cd15 ct15), sl15⟩)
    (c15 : PySem.W.codeIn K cd15 "Prices.copied" = true)
    (k15 : PySem.W.keepIn K (.ref f15) = true)
    (a16 : PySem.W.findIn K (.ref C_Prices) "__eq__" = some (some (.ref f16)))
    (i16 : PySem.W.isFn K (.ref f16) = true)
    (l16 : K.lookup f16 = some ⟨oc16, od16, .func (PySem.W.fnOf "__eq__" "Prices.__eq__" (defArgs s_Prices_eq) (defBody s_Prices_eq) (defScope s_Prices_eq) .none kV16 dc16 pm16 an16 cd16 ct16), sl16⟩)
    (c16 : PySem.W.codeIn K cd16 "Prices.__eq__" = true)
    (k16 : PySem.W.keepIn K (.ref f16) = true)
    (a17 : PySem.W.nsIn K mainGlobals "_law_start" = some (some (.ref f17)))
    (l17 : K.lookup f17 = some ⟨oc17, od17, .func (PySem.W.fnOf "_law_start" "_law_start" (defArgs s__law_start) (defBody s__law_start) (defScope s__law_start) .none kV17 dc17 pm17 an17 cd17 ct17), sl17⟩)
    (c17 : PySem.W.codeIn K cd17 "_law_start" = true)
    (k17 : PySem.W.keepIn K (.ref f17) = true)
    (a18 : PySem.W.nsIn K mainGlobals "_law_draw" = some (some (.ref f18)))
    (l18 : K.lookup f18 = some ⟨oc18, od18, .func (PySem.W.fnOf "_law_draw" "_law_draw" (defArgs s__law_draw) (defBody s__law_draw) (defScope s__law_draw) .none kV18 dc18 pm18 an18 cd18 ct18), sl18⟩)
    (c18 : PySem.W.codeIn K cd18 "_law_draw" = true)
    (k18 : PySem.W.keepIn K (.ref f18) = true)
    (a19 : PySem.W.nsIn K mainGlobals "_law_price" = some (some (.ref f19)))
    (l19 : K.lookup f19 = some ⟨oc19, od19, .func (PySem.W.fnOf "_law_price" "_law_price" (defArgs s__law_price) (defBody s__law_price) (defScope s__law_price) .none kV19 dc19 pm19 an19 cd19 ct19), sl19⟩)
    (c19 : PySem.W.codeIn K cd19 "_law_price" = true)
    (k19 : PySem.W.keepIn K (.ref f19) = true)
    (a20 : PySem.W.nsIn K mainGlobals "_law_odd" = some (some (.ref f20)))
    (l20 : K.lookup f20 = some ⟨oc20, od20, .func (PySem.W.fnOf "_law_odd" "_law_odd" (defArgs s__law_odd) (defBody s__law_odd) (defScope s__law_odd) .none kV20 dc20 pm20 an20 cd20 ct20), sl20⟩)
    (c20 : PySem.W.codeIn K cd20 "_law_odd" = true)
    (k20 : PySem.W.keepIn K (.ref f20) = true)
    (a21 : PySem.W.nsIn K mainGlobals "_law_told" = some (some (.ref f21)))
    (l21 : K.lookup f21 = some ⟨oc21, od21, .func (PySem.W.fnOf "_law_told" "_law_told" (defArgs s__law_told) (defBody s__law_told) (defScope s__law_told) .none kV21 dc21 pm21 an21 cd21 ct21), sl21⟩)
    (c21 : PySem.W.codeIn K cd21 "_law_told" = true)
    (k21 : PySem.W.keepIn K (.ref f21) = true)
    (a22 : PySem.W.nsIn K mainGlobals "_law_unchanged" = some (some (.ref f22)))
    (l22 : K.lookup f22 = some ⟨oc22, od22, .func (PySem.W.fnOf "_law_unchanged" "_law_unchanged" (defArgs s__law_unchanged) (defBody s__law_unchanged) (defScope s__law_unchanged) .none kV22 dc22 pm22 an22 cd22 ct22), sl22⟩)
    (c22 : PySem.W.codeIn K cd22 "_law_unchanged" = true)
    (k22 : PySem.W.keepIn K (.ref f22) = true)
    (a23 : PySem.W.nsIn K mainGlobals "_law_unmade" = some (some (.ref f23)))
    (l23 : K.lookup f23 = some ⟨oc23, od23, .func (PySem.W.fnOf "_law_unmade" "_law_unmade" (defArgs s__law_unmade) (defBody s__law_unmade) (defScope s__law_unmade) .none kV23 dc23 pm23 an23 cd23 ct23), sl23⟩)
    (c23 : PySem.W.codeIn K cd23 "_law_unmade" = true)
    (k23 : PySem.W.keepIn K (.ref f23) = true)
    (a24 : PySem.W.nsIn K mainGlobals "law" = some (some (.ref f24)))
    (l24 : K.lookup f24 = some ⟨oc24, od24, .func (PySem.W.fnOf "law" "law" (defArgs s_law) (defBody s_law) (defScope s_law) .none kV24 dc24 pm24 an24 cd24 ct24), sl24⟩)
    (c24 : PySem.W.codeIn K cd24 "law" = true)
    (k24 : PySem.W.keepIn K (.ref f24) = true)
    (z_staticmethod : PySem.W.nsIn K mainGlobals "staticmethod" = some none)
    (z_property : PySem.W.nsIn K mainGlobals "property" = some none)
    (z_list : PySem.W.nsIn K mainGlobals "list" = some none)
    (z_range : PySem.W.nsIn K mainGlobals "range" = some none)
    (z_isinstance : PySem.W.nsIn K mainGlobals "isinstance" = some none)
    (z_int : PySem.W.nsIn K mainGlobals "int" = some none)
    (z_abs : PySem.W.nsIn K mainGlobals "abs" = some none)
    (z_bool : PySem.W.nsIn K mainGlobals "bool" = some none)
    (z_len : PySem.W.nsIn K mainGlobals "len" = some none)
    (z_all : PySem.W.nsIn K mainGlobals "all" = some none)
    (z_str : PySem.W.nsIn K mainGlobals "str" = some none) :
    ∃ fd : FuncData, (∀ (s : Shared) (v : Value), BindsTo s fd ⟨[v], []⟩ [("_law_script", v)]) ∧ ∀ base : Heap, K.In base → base.Ns mainGlobals mg → FnOk l.prog w K mg base (L2.CX l.prog w) 13 fa fd ["_law_script"] (spOf K SpLaw) := by
  have e := hfa.symm.trans (PySem.W.mg_of X G a24)
  cases e
  have B : Blt mg := ⟨PySem.W.mg_none_of X G z_staticmethod, PySem.W.mg_none_of X G z_property, PySem.W.mg_none_of X G z_list, PySem.W.mg_none_of X G z_range, PySem.W.mg_none_of X G z_isinstance, PySem.W.mg_none_of X G z_int, PySem.W.mg_none_of X G z_abs, PySem.W.mg_none_of X G z_bool, PySem.W.mg_none_of X G z_len, PySem.W.mg_none_of X G z_all, PySem.W.mg_none_of X G z_str⟩
  refine ⟨PySem.W.fnOf "law" "law" (defArgs s_law) (defBody s_law) (defScope s_law) .none kV24 dc24 pm24 an24 cd24 ct24, fun s v => .of_eq rfl, fun base _ _ => ?_⟩
  have K_Ratio : Cls K C_Ratio := ⟨pg_Ratio, hd_Ratio, po_Ratio, sa_Ratio⟩
  have I_Ratio : InsT K C_Ratio := ⟨K_Ratio, ha_Ratio, hn0, ht0, hm_Ratio⟩
  have A_Ratio : mg "Ratio" = some (.ref C_Ratio) := PySem.W.mg_of X G a_Ratio
  have N_Ratio_top : Fld K C_Ratio "top" := ⟨K_Ratio, n_Ratio_top⟩
  have N_Ratio_bottom : Fld K C_Ratio "bottom" := ⟨K_Ratio, n_Ratio_bottom⟩
  have E_Ratio : EqT K C_Ratio := ⟨ne_Ratio, hm_Ratio⟩
  have K_Prices : Cls K C_Prices := ⟨pg_Prices, hd_Prices, po_Prices, sa_Prices⟩
  have I_Prices : InsT K C_Prices := ⟨K_Prices, ha_Prices, hn0, ht0, hm_Prices⟩
  have A_Prices : mg "Prices" = some (.ref C_Prices) := PySem.W.mg_of X G a_Prices
  have N_Prices_known : Fld K C_Prices "known" := ⟨K_Prices, n_Prices_known⟩
  have E_Prices : EqT K C_Prices := ⟨ne_Prices, hm_Prices⟩
  have UW : UpTxt K mg "WireError" C_WireError := ⟨PySem.W.mg_of X G aW, wr, wg, wi⟩
  have A_WireError : mg "WireError" = some (.ref C_WireError) := PySem.W.mg_of X G aW
  have F1 := fun_mk (st := s_InvalidPrices_init) l1 c1 k1
  have b1 := F1.binds (ps := ["self", "given"]) fun _ _ _ _ _ _ us hl => match us, hl with | [_, _], _ => rfl
  have xf_InvalidPrices : XfC K C_InvalidPrices := ⟨xg_InvalidPrices, xh_InvalidPrices, xb_InvalidPrices, xd_InvalidPrices⟩
  have oe_InvalidPrices : OexC K C_InvalidPrices := ⟨⟨_, _, _, _, _, _, _, _, _, _, _, _, _, _, _, xL_InvalidPrices, rfl⟩, xs_InvalidPrices, xb_InvalidPrices, xt_InvalidPrices, xk_InvalidPrices⟩
  have R_InvalidPrices : ErrD l.prog w K mg base "InvalidPrices" C_InvalidPrices := ⟨PySem.W.mg_of X G a_InvalidPrices, oe_InvalidPrices, ⟨f1, _, a1, t1, ok_err_InvalidPrices F1 ⟨UW, oe_InvalidPrices, xf_InvalidPrices, xn_InvalidPrices, a1, t1⟩, b1⟩, ⟨xf_InvalidPrices, xn_InvalidPrices⟩⟩
  have EC_InvalidPrices : ExcC K C_InvalidPrices := ⟨xg_InvalidPrices, xh_InvalidPrices, xb_InvalidPrices, xd_InvalidPrices, xa_InvalidPrices, hn0, ht0, xm_InvalidPrices⟩
  have EX_InvalidPrices : PySem.W.exmOne K (.ref C_InvalidPrices) (.ref C_InvalidPrices) = some true := PySem.W.exm_ref xb_InvalidPrices xd_InvalidPrices xt_InvalidPrices xx_InvalidPrices
  have EW_InvalidPrices : PySem.W.kitOne K (.ref C_InvalidPrices) (.ref C_WireError) = some true := kit_oo (of_decide_eq_false xne_InvalidPrices) iC_WireError tC_WireError xw_InvalidPrices
  have T_int_Ratio : PySem.W.kitOne K (.type "int") (.ref C_Ratio) = some false := kit_own iC_Ratio tC_Ratio sb_int_Ratio
  have T_bool_Ratio : PySem.W.kitOne K (.type "bool") (.ref C_Ratio) = some false := kit_own iC_Ratio tC_Ratio sb_bool_Ratio
  have T_str_Ratio : PySem.W.kitOne K (.type "str") (.ref C_Ratio) = some false := kit_own iC_Ratio tC_Ratio sb_str_Ratio
  have T_NoneType_Ratio : PySem.W.kitOne K (.type "NoneType") (.ref C_Ratio) = some false := kit_own iC_Ratio tC_Ratio sb_NoneType_Ratio
  have T_int_Prices : PySem.W.kitOne K (.type "int") (.ref C_Prices) = some false := kit_own iC_Prices tC_Prices sb_int_Prices
  have U_Ratio_int : PySem.W.kitOne K (.ref C_Ratio) (.type "int") = some false := kit_bt (by kernel_rfl) su_Ratio_int
  have T : RatT K mg C_Ratio := ⟨A_Ratio, I_Ratio, N_Ratio_top, N_Ratio_bottom, U_Ratio_int, kit_self, T_int_Ratio, T_bool_Ratio, T_str_Ratio, T_NoneType_Ratio, sf, nfI, nfC, E_Ratio⟩
  have TQ : PrT K mg C_Prices := ⟨A_Prices, I_Prices, N_Prices_known, kit_self, T_int_Prices, pfI, pfC, E_Prices⟩
  have ET : EpT K mg C_InvalidPrices C_WireError := ⟨A_WireError, EC_InvalidPrices, EW_InvalidPrices, EX_InvalidPrices⟩
  have F2 := fun_mk (st := s_greatest_divisor) l2 c2 k2
  have b2 := F2.binds (ps := ["one", "other"]) fun _ _ _ _ _ _ us hl => match us, hl with | [_, _], _ => rfl
  have G_greatest_divisor := fnD_of (P := l.prog) (w := w) (base := base) F2 (PySem.W.mg_of X G a2) b2 (ok_gcd (P := l.prog) (w := w) (mg := mg) (base := base) F2 B)
  have F3 := fun_mk (st := s_is_integer) l3 c3 k3
  have b3 := F3.binds (ps := ["thing"]) fun _ _ _ _ _ _ us hl => match us, hl with | [_], _ => rfl
  have G_is_integer := fnD_of (P := l.prog) (w := w) (base := base) F3 (PySem.W.mg_of X G a3) b3 (ok_isInt (P := l.prog) (w := w) (mg := mg) (base := base) F3 B)
  have F4 : FunD K "__init__" "Ratio.__init__" (defArgs s_Ratio_init) (defBody s_Ratio_init) (defScope s_Ratio_init) [.int 1] [] f4 _ := ⟨⟨oc4, od4, _, _, _, _, _, _, _, sl4, rfl, l4, c4, .inr ⟨by simp, Td4, _, [.int 1 tD4_0], nT4, rfl, lT4, rfl, (.cons ⟨_, rfl⟩ .nil)⟩, .inl rfl⟩, k4⟩
  have MK_Ratio : Mk K C_Ratio f4 := ⟨mk_Ratio, a4, i4, kc_Ratio⟩
  have FI_Ratio := F4
  have GI := ok_init (P := l.prog) (w := w) (base := base) (CI := C_Ratio) (CN := C_Ratio) FI_Ratio T G_is_integer G_greatest_divisor
  have m2 := mkR2 FI_Ratio MK_Ratio A_Ratio GI
  have m1 := mkR1 FI_Ratio MK_Ratio A_Ratio GI
  have NW := nw_rat (ds1 := []) T kc_Ratio m2 m1
  have F5 := fun_mk (st := s_as_ratio) l5 c5 k5
  have b5 := F5.binds (ps := ["thing"]) fun _ _ _ _ _ _ us hl => match us, hl with | [_], _ => rfl
  have G_as_ratio := fnD_of (P := l.prog) (w := w) (base := base) F5 (PySem.W.mg_of X G a5) b5 (ok_as (P := l.prog) (w := w) (mg := mg) (base := base) F5 B T G_is_integer NW)
  have F6 := fun_mk (st := s_Ratio_lt) l6 c6 k6
  have b6 := F6.binds (ps := ["self", "other"]) fun _ _ _ _ _ _ us hl => match us, hl with | [_, _], _ => rfl
  have G_Ratio_lt := mtD_of (P := l.prog) (w := w) (mg := mg) (base := base) F6 K_Ratio a6 i6 b6 (ok_lt (P := l.prog) (w := w) (mg := mg) (base := base) F6 T G_as_ratio)
  have F7 := fun_mk (st := s_Ratio_eq) l7 c7 k7
  have b7 := F7.binds (ps := ["self", "other"]) fun _ _ _ _ _ _ us hl => match us, hl with | [_, _], _ => rfl
  have G_Ratio_eq := mtD_of (P := l.prog) (w := w) (mg := mg) (base := base) F7 K_Ratio a7 i7 b7 (ok_eq (P := l.prog) (w := w) (mg := mg) (base := base) F7 B T G_is_integer)
  have F8 := fun_mk (st := s_as_price) l8 c8 k8
  have b8 := F8.binds (ps := ["name", "thing"]) fun _ _ _ _ _ _ us hl => match us, hl with | [_, _], _ => rfl
  have G_as_price := fnD_of (P := l.prog) (w := w) (base := base) F8 (PySem.W.mg_of X G a8) b8 (ok_price (P := l.prog) (w := w) (mg := mg) (base := base) F8 B T G_is_integer G_as_ratio G_Ratio_lt R_InvalidPrices)
  have F9 : FunD K "__init__" "Prices.__init__" (defArgs s_Prices_init) (defBody s_Prices_init) (defScope s_Prices_init) [] [("lost", .int 1), ("surplus", .int 1), ("value", .int 1), ("junction", .int 1)] f9 _ := ⟨⟨oc9, od9, _, _, _, _, _, _, _, sl9, rfl, l9, c9, .inl ⟨rfl, rfl⟩, .inr ⟨Dk9, rfl, fun q hq => by
    simp only [List.mem_cons, List.not_mem_nil, or_false] at hq
    rcases hq with rfl | rfl | rfl | rfl
    · exact ⟨_, kd9_0, _, rfl⟩
    · exact ⟨_, kd9_1, _, rfl⟩
    · exact ⟨_, kd9_2, _, rfl⟩
    · exact ⟨_, kd9_3, _, rfl⟩⟩⟩, k9⟩
  have MK_Prices : Mk K C_Prices f9 := ⟨mk_Prices, a9, i9, kc_Prices⟩
  have FI_Prices := F9
  have GPI := ok_pinit (P := l.prog) (w := w) (base := base) FI_Prices T TQ G_as_price
  have q4 := mk4_of FI_Prices MK_Prices A_Prices GPI
  have qJ := mkJ_of FI_Prices MK_Prices A_Prices GPI
  have qV := mkV_of FI_Prices MK_Prices A_Prices GPI
  have q0 := mk0_of FI_Prices MK_Prices A_Prices GPI
  have F10 := fun_mk (st := s_Prices_lost) l10 c10 k10
  have b10 := F10.binds (ps := ["self"]) fun _ _ _ _ _ _ us hl => match us, hl with | [_], _ => rfl
  have G_Prices_lost := prD_of (P := l.prog) (w := w) (mg := mg) (base := base) F10 K_Prices a10 g10 t10 r10 b10 (ok_get_lost (P := l.prog) (w := w) (mg := mg) (base := base) F10 TQ)
  have F11 := fun_mk (st := s_Prices_surplus) l11 c11 k11
  have b11 := F11.binds (ps := ["self"]) fun _ _ _ _ _ _ us hl => match us, hl with | [_], _ => rfl
  have G_Prices_surplus := prD_of (P := l.prog) (w := w) (mg := mg) (base := base) F11 K_Prices a11 g11 t11 r11 b11 (ok_get_surplus (P := l.prog) (w := w) (mg := mg) (base := base) F11 TQ)
  have F12 := fun_mk (st := s_Prices_value) l12 c12 k12
  have b12 := F12.binds (ps := ["self"]) fun _ _ _ _ _ _ us hl => match us, hl with | [_], _ => rfl
  have G_Prices_value := prD_of (P := l.prog) (w := w) (mg := mg) (base := base) F12 K_Prices a12 g12 t12 r12 b12 (ok_get_value (P := l.prog) (w := w) (mg := mg) (base := base) F12 TQ)
  have F13 := fun_mk (st := s_Prices_junction) l13 c13 k13
  have b13 := F13.binds (ps := ["self"]) fun _ _ _ _ _ _ us hl => match us, hl with | [_], _ => rfl
  have G_Prices_junction := prD_of (P := l.prog) (w := w) (mg := mg) (base := base) F13 K_Prices a13 g13 t13 r13 b13 (ok_get_junction (P := l.prog) (w := w) (mg := mg) (base := base) F13 TQ)
  have F14 := fun_mk (st := s_Prices_change) l14 c14 k14
  have b14 := F14.binds (ps := ["self", "name", "price"]) fun _ _ _ _ _ _ us hl => match us, hl with | [_, _, _], _ => rfl
  have G_Prices_change := mtD_of (P := l.prog) (w := w) (mg := mg) (base := base) F14 K_Prices a14 i14 b14 (ok_change (P := l.prog) (w := w) (mg := mg) (base := base) F14 B TQ G_as_price R_InvalidPrices)
  have F15 := fun_mk (st := s_Prices_copied) l15 c15 k15
  have b15 := F15.binds (ps := ["self"]) fun _ _ _ _ _ _ us hl => match us, hl with | [_], _ => rfl
  have G_Prices_copied := mtD_of (P := l.prog) (w := w) (mg := mg) (base := base) F15 K_Prices a15 i15 b15 (ok_copied (P := l.prog) (w := w) (mg := mg) (base := base) F15 TQ G_Prices_lost G_Prices_surplus G_Prices_value G_Prices_junction q4)
  have F16 := fun_mk (st := s_Prices_eq) l16 c16 k16
  have b16 := F16.binds (ps := ["self", "other"]) fun _ _ _ _ _ _ us hl => match us, hl with | [_, _], _ => rfl
  have G_Prices_eq := mtD_of (P := l.prog) (w := w) (mg := mg) (base := base) F16 K_Prices a16 i16 b16 (ok_peq (P := l.prog) (w := w) (mg := mg) (base := base) F16 B T TQ G_Ratio_eq)
  have F17 := fun_mk (st := s__law_start) l17 c17 k17
  have b17 := F17.binds (ps := ["_law_script"]) fun _ _ _ _ _ _ us hl => match us, hl with | [_], _ => rfl
  have G__law_start := fnD_of (P := l.prog) (w := w) (base := base) F17 (PySem.W.mg_of X G a17) b17 (ok_start (P := l.prog) (w := w) (mg := mg) (base := base) F17 B)
  have F18 := fun_mk (st := s__law_draw) l18 c18 k18
  have b18 := F18.binds (ps := ["_law_state", "_law_many"]) fun _ _ _ _ _ _ us hl => match us, hl with | [_, _], _ => rfl
  have G__law_draw := fnD_of (P := l.prog) (w := w) (base := base) F18 (PySem.W.mg_of X G a18) b18 (ok_draw (P := l.prog) (w := w) (mg := mg) (base := base) F18 B)
  have F19 := fun_mk (st := s__law_price) l19 c19 k19
  have b19 := F19.binds (ps := ["_law_state"]) fun _ _ _ _ _ _ us hl => match us, hl with | [_], _ => rfl
  have G__law_price := fnD_of (P := l.prog) (w := w) (base := base) F19 (PySem.W.mg_of X G a19) b19 (ok_lprice (P := l.prog) (w := w) (mg := mg) (base := base) F19 G__law_draw NW)
  have F20 := fun_mk (st := s__law_odd) l20 c20 k20
  have b20 := F20.binds (ps := ["_law_state"]) fun _ _ _ _ _ _ us hl => match us, hl with | [_], _ => rfl
  have G__law_odd := fnD_of (P := l.prog) (w := w) (base := base) F20 (PySem.W.mg_of X G a20) b20 (ok_lodd (P := l.prog) (w := w) (mg := mg) (base := base) F20 G__law_draw NW)
  have F21 := fun_mk (st := s__law_told) l21 c21 k21
  have b21 := F21.binds (ps := ["_law_prices"]) fun _ _ _ _ _ _ us hl => match us, hl with | [_], _ => rfl
  have G__law_told := fnD_of (P := l.prog) (w := w) (base := base) F21 (PySem.W.mg_of X G a21) b21 (ok_told (P := l.prog) (w := w) (mg := mg) (base := base) (C := C_Ratio) F21 G_Prices_lost G_Prices_surplus G_Prices_value G_Prices_junction)
  have F22 := fun_mk (st := s__law_unchanged) l22 c22 k22
  have b22 := F22.binds (ps := ["_law_prices", "_law_name", "_law_thing"]) fun _ _ _ _ _ _ us hl => match us, hl with | [_, _, _], _ => rfl
  have G__law_unchanged := fnD_of (P := l.prog) (w := w) (base := base) F22 (PySem.W.mg_of X G a22) b22 (ok_unch (P := l.prog) (w := w) (mg := mg) (base := base) F22 B ET G_Prices_change R_InvalidPrices)
  have F23 := fun_mk (st := s__law_unmade) l23 c23 k23
  have b23 := F23.binds (ps := ["_law_some"]) fun _ _ _ _ _ _ us hl => match us, hl with | [_], _ => rfl
  have G__law_unmade := fnD_of (P := l.prog) (w := w) (base := base) F23 (PySem.W.mg_of X G a23) b23 (ok_unmade (P := l.prog) (w := w) (mg := mg) (base := base) F23 ET q4 R_InvalidPrices)
  have F24 := fun_mk (st := s_law) l24 c24 k24
  have b24 := F24.binds (ps := ["_law_script"]) fun _ _ _ _ _ _ us hl => match us, hl with | [_], _ => rfl
  exact ok_law (P := l.prog) (w := w) (base := base) F24 ⟨B, T, TQ, U_Ratio_int, G_Ratio_eq, G_Prices_eq, G__law_start, G__law_draw, G__law_price, G__law_odd, G__law_told, G__law_unchanged, G__law_unmade, q4, qJ, qV, q0, G_Prices_change, G_Prices_copied⟩
theorem walk {l : PySem.W.OpenLaw} {q : Program} {loose : List Str} {XP : (Str → Option Value) → Heap → Prop} {YP : World → Heap → Prop} {d : DefRec} {K : Params → PySem.W.Frag} (hn : l.most = some 63) (hdf : d.params.defaults = [])
    (hY : ∀ (w : World) (h : Heap), YP w h → (K w.params).In h)
    (F : ∀ (w : World) (mg : Str → Option Value) (fa : Addr) (h : Heap), (K w.params).In h → h.Ns mainGlobals mg → mg d.name = some (.ref fa) →
      ∃ fd : FuncData, (∀ (s : Shared) (u : Value), BindsTo s fd ⟨[u], []⟩ [("_law_script", u)]) ∧ ∀ base : Heap, (K w.params).In base → base.Ns mainGlobals mg → FnOk l.prog w (K w.params) mg base (L2.CX l.prog w) 13 fa fd ["_law_script"] (spOf (K w.params) SpLaw)) :
    PySem.W.WalkO q loose XP YP l.row.toRowW d [] (fun f vs => PySem.call f vs) :=
  L2.walk_of (n := 63) (k := 13) (x := "_law_script") (CX := fun w => L2.CX l.prog w) (sp := fun w => spOf (K w.params) SpLaw) hn (by decide) hdf ⟨rfl, by decide, by decide⟩ hY F (fun w H a ns hl _ hS => ⟨fun _ => none, [], H, [], [.lst (ns.map D.int)], fun d _ => d = .bl true, fun _ _ _ => False, ⟨Same.refl _, fun _ _ e => (by cases e), fun _ _ e => by (cases e), fun _ h => (by cases h), rfl, List.nodup_nil, fun _ h => (by cases h), fun j a d h => (by simp at h), fun j a d h => (by simp at h)⟩,
      RTs.cons (Rep.rt (by rw [Rep]; exact ⟨a, _, rfl, hS, reps_ints ns⟩)) RTs.nil, by first | exact .mk rfl | exact .mk hl rfl, fun v H' ⟨_, _, d, _, _, _, _, rv, e⟩ => (by cases e; exact rv.bl), fun _ _ _ ⟨_, _, _, _, _, _, _, _, _, _, _, _, _, _, z⟩ => z⟩)
    fun _ _ _ _ _ ⟨_, _, _, _, _, _, _, _, _, _, _, _, z⟩ => z
end K53
open PySem PySem.W PyProof.Rows
set_option maxRecDepth 100000 in
set_option maxHeartbeats 0 in
theorem PySem.Challenge.cw_wishedwires_k53_prices_set_holds : PySem.Challenge.rw_wishedwires_k53_prices_set.Holds := by
  w_on; o_law; k_head; (case hw => w_witness2)
  k_fill
  refine K53.walk (l := PySem.Challenge.rw_wishedwires_k53_prices_set) rfl rfl (fun w h Y => PySem.W.kIn_of Y) ?F
  case F =>
    intro w mg fa h KX G hmg
    refine' K53.all_mk KX G hmg ?hn0 ?ht0 ?a_Ratio ?pg_Ratio ?hd_Ratio ?po_Ratio ?sa_Ratio ?ha_Ratio ?hm_Ratio ?kc_Ratio ?mk_Ratio ?iC_Ratio ?tC_Ratio ?n_Ratio_top ?n_Ratio_bottom ?ne_Ratio ?a_Prices ?pg_Prices ?hd_Prices ?po_Prices ?sa_Prices ?ha_Prices ?hm_Prices ?kc_Prices ?mk_Prices ?iC_Prices ?tC_Prices ?n_Prices_known ?ne_Prices ?aW ?wr ?wg ?wi ?iC_WireError ?tC_WireError ?a_InvalidPrices ?xL_InvalidPrices ?xs_InvalidPrices ?xb_InvalidPrices ?xt_InvalidPrices ?xk_InvalidPrices ?xn_InvalidPrices ?xg_InvalidPrices ?xh_InvalidPrices ?xd_InvalidPrices ?xx_InvalidPrices ?xa_InvalidPrices ?xm_InvalidPrices ?xw_InvalidPrices ?xne_InvalidPrices ?a1 ?t1 ?l1 ?c1 ?k1 ?sb_int_Ratio ?sb_bool_Ratio ?sb_str_Ratio ?sb_NoneType_Ratio ?sb_int_Prices ?su_Ratio_int ?sf ?nfI ?nfC ?pfI ?pfC ?a2 ?l2 ?c2 ?k2 ?a3 ?l3 ?c3 ?k3 ?a4 ?i4 ?l4 ?c4 ?k4 ?lT4 ?a5 ?l5 ?c5 ?k5 ?a6 ?i6 ?l6 ?c6 ?k6 ?a7 ?i7 ?l7 ?c7 ?k7 ?a8 ?l8 ?c8 ?k8 ?a9 ?i9 ?l9 ?c9 ?k9 ?kd9_0 ?kd9_1 ?kd9_2 ?kd9_3 ?a10 ?g10 ?t10 ?r10 ?l10 ?c10 ?k10 ?a11 ?g11 ?t11 ?r11 ?l11 ?c11 ?k11 ?a12 ?g12 ?t12 ?r12 ?l12 ?c12 ?k12 ?a13 ?g13 ?t13 ?r13 ?l13 ?c13 ?k13 ?a14 ?i14 ?l14 ?c14 ?k14 ?a15 ?i15 ?l15 ?c15 ?k15 ?a16 ?i16 ?l16 ?c16 ?k16 ?a17 ?l17 ?c17 ?k17 ?a18 ?l18 ?c18 ?k18 ?a19 ?l19 ?c19 ?k19 ?a20 ?l20 ?c20 ?k20 ?a21 ?l21 ?c21 ?k21 ?a22 ?l22 ?c22 ?k22 ?a23 ?l23 ?c23 ?k23 ?a24 ?l24 ?c24 ?k24 ?z_staticmethod ?z_property ?z_list ?z_range ?z_isinstance ?z_int ?z_abs ?z_bool ?z_len ?z_all ?z_str
    (case hn0 => k_is)
    (case ht0 => k_is)
    (case a_Ratio => k_is)
    (case pg_Ratio => k_is)
    (case hd_Ratio => k_is)
    (case po_Ratio => k_is)
    (case sa_Ratio => k_is)
    (case ha_Ratio => k_is)
    (case hm_Ratio => k_is)
    (case kc_Ratio => k_is)
    (case mk_Ratio => k_is)
    (case iC_Ratio => k_is)
    (case tC_Ratio => k_is)
    (case n_Ratio_top => k_is)
    (case n_Ratio_bottom => k_is)
    (case ne_Ratio => k_is)
    (case a_Prices => k_is)
    (case pg_Prices => k_is)
    (case hd_Prices => k_is)
    (case po_Prices => k_is)
    (case sa_Prices => k_is)
    (case ha_Prices => k_is)
    (case hm_Prices => k_is)
    (case kc_Prices => k_is)
    (case mk_Prices => k_is)
    (case iC_Prices => k_is)
    (case tC_Prices => k_is)
    (case n_Prices_known => k_is)
    (case ne_Prices => k_is)
    (case aW => k_is)
    (case wr => k_is)
    (case wg => k_is)
    (case wi => k_is)
    (case iC_WireError => k_is)
    (case tC_WireError => k_is)
    (case a_InvalidPrices => k_is)
    (case xL_InvalidPrices => k_is)
    (case xs_InvalidPrices => k_is)
    (case xb_InvalidPrices => k_is)
    (case xt_InvalidPrices => k_is)
    (case xk_InvalidPrices => k_is)
    (case xn_InvalidPrices => k_is)
    (case xg_InvalidPrices => k_is)
    (case xh_InvalidPrices => k_is)
    (case xd_InvalidPrices => k_is)
    (case xx_InvalidPrices => k_is)
    (case xa_InvalidPrices => k_is)
    (case xm_InvalidPrices => k_is)
    (case xw_InvalidPrices => k_is)
    (case xne_InvalidPrices => first | rfl | decide)
    (case a1 => k_is)
    (case t1 => k_is)
    (case l1 => k_is)
    (case c1 => k_is)
    (case k1 => k_is)
    (case sb_int_Ratio => k_is)
    (case sb_bool_Ratio => k_is)
    (case sb_str_Ratio => k_is)
    (case sb_NoneType_Ratio => k_is)
    (case sb_int_Prices => k_is)
    (case su_Ratio_int => k_is)
    (case sf => k_is)
    (case nfI => k_is)
    (case nfC => k_is)
    (case pfI => k_is)
    (case pfC => k_is)
    (case a2 => k_is)
    (case l2 => k_is)
    (case c2 => k_is)
    (case k2 => k_is)
    (case a3 => k_is)
    (case l3 => k_is)
    (case c3 => k_is)
    (case k3 => k_is)
    (case a4 => k_is)
    (case i4 => k_is)
    (case l4 => k_is)
    (case c4 => k_is)
    (case k4 => k_is)
    (case lT4 => k_is)
    (case a5 => k_is)
    (case l5 => k_is)
    (case c5 => k_is)
    (case k5 => k_is)
    (case a6 => k_is)
    (case i6 => k_is)
    (case l6 => k_is)
    (case c6 => k_is)
    (case k6 => k_is)
    (case a7 => k_is)
    (case i7 => k_is)
    (case l7 => k_is)
    (case c7 => k_is)
    (case k7 => k_is)
    (case a8 => k_is)
    (case l8 => k_is)
    (case c8 => k_is)
    (case k8 => k_is)
    (case a9 => k_is)
    (case i9 => k_is)
    (case l9 => k_is)
    (case c9 => k_is)
    (case k9 => k_is)
    (case kd9_0 => k_is)
    (case kd9_1 => k_is)
    (case kd9_2 => k_is)
    (case kd9_3 => k_is)
    (case a10 => k_is)
    (case g10 => k_is)
    (case t10 => k_is)
    (case r10 => k_is)
    (case l10 => k_is)
    (case c10 => k_is)
    (case k10 => k_is)
    (case a11 => k_is)
    (case g11 => k_is)
    (case t11 => k_is)
    (case r11 => k_is)
    (case l11 => k_is)
    (case c11 => k_is)
    (case k11 => k_is)
    (case a12 => k_is)
    (case g12 => k_is)
    (case t12 => k_is)
    (case r12 => k_is)
    (case l12 => k_is)
    (case c12 => k_is)
    (case k12 => k_is)
    (case a13 => k_is)
    (case g13 => k_is)
    (case t13 => k_is)
    (case r13 => k_is)
    (case l13 => k_is)
    (case c13 => k_is)
    (case k13 => k_is)
    (case a14 => k_is)
    (case i14 => k_is)
    (case l14 => k_is)
    (case c14 => k_is)
    (case k14 => k_is)
    (case a15 => k_is)
    (case i15 => k_is)
    (case l15 => k_is)
    (case c15 => k_is)
    (case k15 => k_is)
    (case a16 => k_is)
    (case i16 => k_is)
    (case l16 => k_is)
    (case c16 => k_is)
    (case k16 => k_is)
    (case a17 => k_is)
    (case l17 => k_is)
    (case c17 => k_is)
    (case k17 => k_is)
    (case a18 => k_is)
    (case l18 => k_is)
    (case c18 => k_is)
    (case k18 => k_is)
    (case a19 => k_is)
    (case l19 => k_is)
    (case c19 => k_is)
    (case k19 => k_is)
    (case a20 => k_is)
    (case l20 => k_is)
    (case c20 => k_is)
    (case k20 => k_is)
    (case a21 => k_is)
    (case l21 => k_is)
    (case c21 => k_is)
    (case k21 => k_is)
    (case a22 => k_is)
    (case l22 => k_is)
    (case c22 => k_is)
    (case k22 => k_is)
    (case a23 => k_is)
    (case l23 => k_is)
    (case c23 => k_is)
    (case k23 => k_is)
    (case a24 => k_is)
    (case l24 => k_is)
    (case c24 => k_is)
    (case k24 => k_is)
    (case z_staticmethod => k_is)
    (case z_property => k_is)
    (case z_list => k_is)
    (case z_range => k_is)
    (case z_isinstance => k_is)
    (case z_int => k_is)
    (case z_abs => k_is)
    (case z_bool => k_is)
    (case z_len => k_is)
    (case z_all => k_is)
    (case z_str => k_is)
#print axioms PySem.Challenge.cw_wishedwires_k53_prices_set_holds
