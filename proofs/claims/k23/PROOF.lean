import PyProof.Rows.All
import Wide.All
import OpenK.AllK
import Wide.FinOn
import HandS.ForMost
import HandS.ForExc
import HandS.Wide
import HandS.WideBits
import HandS.IsInst
import HandS.Deep
import HandS.Walk
import HandS.Zip
import HandS.Rev
import HandS.CallSlots
import HandS.HeadHook1
import HandS.Defaults
import HandS.More
import HandS.SetFor
import HandS.Conv
import HandS.TupAny
import HandS.HeadEnd
import HandS.HeadHook2
import HandS.HeadHook3
import HandS.HeadHook4
import HandS.Head0
import HandS.Head1
import HandS.Head2
import KE.GoesEnum
import KE.GoesMore
import KE.GoesZip
import HandS.Style
import PySem.Challenge.RW_evenerror_k23_level
set_option Elab.async false
set_option linter.all false
set_option maxRecDepth 100000
set_option maxHeartbeats 4000000
namespace G
open PySem PySem.Spec PyProof.Rows L2

/-! ## values, cells -/
inductive D where
  | non | bl (b : Bool) | int (i : Int) | str (x : Str) | tup (xs : List D) | loc (n : Nat) | rol (xs : List D) | val (v : V)
inductive Cell where
  | lst (xs : List D) | ins (C : Str) (fs : List (Str × D))
abbrev Lh := List Cell
abbrev G3 := List (Option D)
inductive R3 (α : Type) where
  | val (a : α) (L : Lh) | exn (c : Str) (L : Lh) | stuck
@[simp] def R3.bind {α β : Type} (r : R3 α) (f : α → Lh → R3 β) : R3 β := match r with
  | .val a L => f a L
  | .exn c L => .exn c L
  | .stuck => .stuck
abbrev E3 := G3 → Lh → R3 D
abbrev T3 := G3 → Lh → R3 Bool
abbrev A3 := G3 → Lh → R3 (List D)
abbrev Fn3 := List D → Lh → R3 D
inductive Out where
  | nx (Γ : G3) (L : Lh) | ret (d : D) (L : Lh) | brk (Γ : G3) (L : Lh) | ct (Γ : G3) (L : Lh) | exn (c : Str) (Γ : G3) (L : Lh) | stuck
abbrev S3 := G3 → Lh → Out
/-! ## what represents what -/
def RoL (K : PySem.W.Frag) (H : Hp) (a : Addr) (xs : List V) : Prop := (∃ o, H a = some (.frz o (.lst xs))) ∨
    ∃ (o : Obj) (its : Array Value) (n : Nat), K.lookup a = some o ∧ o.cls = .type "list" ∧ o.dict = none ∧ o.data = .seq its n ∧ its.size ≤ sizeLine ∧ Vals xs its.toList
theorem RoL.sq {K : PySem.W.Frag} {H : Hp} {a : Addr} {xs : List V} (h : RoL K H a xs) : SqL K H a xs := by
  rcases h with ⟨o, h⟩ | h
  · exact .inl (.inr ⟨o, h⟩)
  · exact .inr h
mutual
def Rep (K : PySem.W.Frag) (ρ : List Addr) (H : Hp) : D → V → Prop
  | .non, v => v = .non
  | .bl b, v => v = .bl b
  | .int i, v => v = .int i
  | .str x, v => v = .str x
  | .tup xs, v => ∃ a vs, v = .ref a ∧ SqT K H a vs ∧ Reps K ρ H xs vs
  | .loc n, v => ∃ a, v = .ref a ∧ ρ[n]? = some a
  | .rol xs, v => ∃ a vs, v = .ref a ∧ RoL K H a vs ∧ Reps K ρ H xs vs
  | .val u, v => v = u
def Reps (K : PySem.W.Frag) (ρ : List Addr) (H : Hp) : List D → List V → Prop
  | [], vs => vs = []
  | x :: xs, vs => ∃ v r, vs = v :: r ∧ Rep K ρ H x v ∧ Reps K ρ H xs r
end
/-- fields of an instance: the same names in the same order -/
def FReps (K : PySem.W.Frag) (ρ : List Addr) (H : Hp) : List (Str × D) → List (Str × V) → Prop
  | [], gs => gs = []
  | x :: xs, gs => ∃ v r, gs = (x.1, v) :: r ∧ Rep K ρ H x.2 v ∧ FReps K ρ H xs r
def CellOk (K : PySem.W.Frag) (ρ : List Addr) (H : Hp) (a : Addr) : Cell → Prop
  | .lst xs => ∃ vs, H a = some (.lst vs) ∧ Reps K ρ H xs vs
  | .ins C fs => ∃ dx gs, H a = some (.ins (He.ga K C) dx gs) ∧ H dx = some (.own a) ∧ FReps K ρ H fs gs
structure Ab (K : PySem.W.Frag) (ρ : List Addr) (H : Hp) (L : Lh) : Prop where
  len : ρ.length = L.length
  nd : ρ.Nodup
  cell : ∀ (n : Nat) (c : Cell), L[n]? = some c → ∃ a, ρ[n]? = some a ∧ CellOk K ρ H a c
/-- what later states keep -/
structure Ext (ρ : List Addr) (H : Hp) (ρ' : List Addr) (H' : Hp) : Prop where
  tup : ∀ a xs, H a = some (.tup xs) → H' a = some (.tup xs)
  frz : ∀ a o u, H a = some (.frz o u) → H' a = some (.frz o u)
  pre : ∃ t, ρ' = ρ ++ t
theorem Ext.refl (ρ : List Addr) (H : Hp) : Ext ρ H ρ H := ⟨fun _ _ h => h, fun _ _ _ h => h, ⟨[], (List.append_nil ρ).symm⟩⟩
theorem Ext.trans {ρ ρ1 ρ2 : List Addr} {H H1 H2 : Hp} (a : Ext ρ H ρ1 H1) (b : Ext ρ1 H1 ρ2 H2) : Ext ρ H ρ2 H2 :=
  ⟨fun c xs h => b.tup c xs (a.tup c xs h), fun c o u h => b.frz c o u (a.frz c o u h), by
    obtain ⟨t, h1⟩ := a.pre
    obtain ⟨t2, h2⟩ := b.pre
    exact ⟨t ++ t2, by rw [h2, h1, List.append_assoc]⟩⟩
theorem Ext.at {ρ ρ' : List Addr} {H H' : Hp} (e : Ext ρ H ρ' H') {n : Nat} {a : Addr} (h : ρ[n]? = some a) : ρ'[n]? = some a := by
  obtain ⟨t, rfl⟩ := e.pre
  rw [List.getElem?_append_left (List.getElem?_eq_some_iff.mp h).1]
  exact h
theorem Ext.sqT {K : PySem.W.Frag} {ρ ρ' : List Addr} {H H' : Hp} (e : Ext ρ H ρ' H') {a : Addr} {xs : List V} (h : SqT K H a xs) : SqT K H' a xs := by
  rcases h with (h | ⟨o, h⟩) | h
  · exact .inl (.inl (e.tup _ _ h))
  · exact .inl (.inr ⟨o, e.frz _ _ _ h⟩)
  · exact .inr h
theorem Ext.roL {K : PySem.W.Frag} {ρ ρ' : List Addr} {H H' : Hp} (e : Ext ρ H ρ' H') {a : Addr} {xs : List V} (h : RoL K H a xs) : RoL K H' a xs := by
  rcases h with ⟨o, h⟩ | h
  · exact .inl ⟨o, e.frz _ _ _ h⟩
  · exact .inr h
mutual
theorem Rep.mono {K : PySem.W.Frag} {ρ ρ' : List Addr} {H H' : Hp} (e : Ext ρ H ρ' H') : ∀ (d : D) {v : V}, Rep K ρ H d v → Rep K ρ' H' d v
  | .non, _, h => h
  | .bl _, _, h => h
  | .int _, _, h => h
  | .str _, _, h => h
  | .tup xs, _, ⟨a, vs, h1, h2, h3⟩ => ⟨a, vs, h1, e.sqT h2, Reps.mono e xs h3⟩
  | .loc _, _, ⟨a, h1, h2⟩ => ⟨a, h1, e.at h2⟩
  | .rol xs, _, ⟨a, vs, h1, h2, h3⟩ => ⟨a, vs, h1, e.roL h2, Reps.mono e xs h3⟩
  | .val _, _, h => h
theorem Reps.mono {K : PySem.W.Frag} {ρ ρ' : List Addr} {H H' : Hp} (e : Ext ρ H ρ' H') : ∀ (ds : List D) {vs : List V}, Reps K ρ H ds vs → Reps K ρ' H' ds vs
  | [], _, h => h
  | x :: xs, _, ⟨v, r, h1, h2, h3⟩ => ⟨v, r, h1, Rep.mono e x h2, Reps.mono e xs h3⟩
end
theorem FReps.mono {K : PySem.W.Frag} {ρ ρ' : List Addr} {H H' : Hp} (e : Ext ρ H ρ' H') : ∀ (fs : List (Str × D)) {gs : List (Str × V)}, FReps K ρ H fs gs → FReps K ρ' H' fs gs
  | [], _, h => h
  | x :: xs, _, ⟨v, r, h1, h2, h3⟩ => ⟨v, r, h1, Rep.mono e x.2 h2, FReps.mono e xs h3⟩
section
variable {K : PySem.W.Frag} {ρ ρ' : List Addr} {H H' : Hp} {L L' : Lh}
theorem Reps.length : ∀ {ds : List D} {vs : List V}, Reps K ρ H ds vs → vs.length = ds.length
  | [], _, h => by rw [show _ = [] from h]; rfl
  | x :: xs, _, ⟨v, r, h1, _, h3⟩ => by rw [h1, List.length_cons, List.length_cons, Reps.length h3]
theorem Reps.get : ∀ {ds : List D} {vs : List V}, Reps K ρ H ds vs → ∀ {i : Nat} {d : D}, ds[i]? = some d → ∃ v, vs[i]? = some v ∧ Rep K ρ H d v
  | [], _, _, i, d, h => by simp at h
  | x :: xs, _, ⟨v, r, h1, h2, h3⟩, 0, d, h => by subst h1; simp at h; subst h; exact ⟨v, rfl, h2⟩
  | x :: xs, _, ⟨v, r, h1, h2, h3⟩, i + 1, d, h => by
    subst h1
    obtain ⟨u, e1, e2⟩ := Reps.get h3 (i := i) (d := d) (by simpa using h)
    exact ⟨u, by simpa using e1, e2⟩
theorem Reps.getV : ∀ {ds : List D} {vs : List V}, Reps K ρ H ds vs → ∀ {i : Nat} {v : V}, vs[i]? = some v → ∃ d, ds[i]? = some d ∧ Rep K ρ H d v
  | [], _, h, i, d, h2 => by rw [show _ = [] from h] at h2; simp at h2
  | x :: xs, _, ⟨v, r, h1, h2, h3⟩, 0, d, h => by subst h1; simp at h; subst h; exact ⟨x, rfl, h2⟩
  | x :: xs, _, ⟨v, r, h1, h2, h3⟩, i + 1, d, h => by
    subst h1
    obtain ⟨u, e1, e2⟩ := Reps.getV h3 (i := i) (v := d) (by simpa using h)
    exact ⟨u, by simpa using e1, e2⟩
theorem Reps.append : ∀ {ds es : List D} {vs us : List V}, Reps K ρ H ds vs → Reps K ρ H es us → Reps K ρ H (ds ++ es) (vs ++ us)
  | [], _, _, _, h, h2 => by rw [show _ = [] from h]; exact h2
  | x :: xs, _, _, _, ⟨v, r, h1, h2, h3⟩, h4 => by subst h1; exact ⟨v, r ++ _, rfl, h2, Reps.append h3 h4⟩
theorem Reps.one {d : D} {v : V} (h : Rep K ρ H d v) : Reps K ρ H [d] [v] := ⟨v, [], rfl, h, rfl⟩
theorem Reps.set {d : D} {v : V} (h : Rep K ρ H d v) : ∀ {ds : List D} {vs : List V} (i : Nat), Reps K ρ H ds vs → Reps K ρ H (ds.set i d) (vs.set i v)
  | [], _, _, h => by rw [show _ = [] from h]; rfl
  | x :: xs, _, 0, ⟨u, r, h1, h2, h3⟩ => by subst h1; exact ⟨v, r, rfl, h, h3⟩
  | x :: xs, _, i + 1, ⟨u, r, h1, h2, h3⟩ => by subst h1; exact ⟨u, r.set i v, rfl, h2, Reps.set h i h3⟩
theorem Reps.take : ∀ {ds : List D} {vs : List V} (i : Nat), Reps K ρ H ds vs → Reps K ρ H (ds.take i) (vs.take i)
  | _, _, 0, _ => by rw [List.take_zero, List.take_zero]; rfl
  | [], _, i + 1, h => by rw [show _ = [] from h]; rfl
  | x :: xs, _, i + 1, ⟨u, r, h1, h2, h3⟩ => by subst h1; exact ⟨u, r.take i, rfl, h2, Reps.take i h3⟩
theorem Reps.drop : ∀ {ds : List D} {vs : List V} (i : Nat), Reps K ρ H ds vs → Reps K ρ H (ds.drop i) (vs.drop i)
  | _, _, 0, h => h
  | [], _, i + 1, h => by rw [show _ = [] from h]; rfl
  | x :: xs, _, i + 1, ⟨u, r, h1, h2, h3⟩ => by subst h1; exact Reps.drop i h3
theorem Reps.rev : ∀ {ds : List D} {vs : List V}, Reps K ρ H ds vs → Reps K ρ H ds.reverse vs.reverse
  | [], _, h => by rw [show _ = [] from h]; rfl
  | x :: xs, _, ⟨u, r, h1, h2, h3⟩ => by subst h1; rw [List.reverse_cons, List.reverse_cons]; exact Reps.append (Reps.rev h3) (Reps.one h2)
theorem Ab.fresh (A : Ab K ρ H L) {p : Addr} (h : H p = none) : p ∉ ρ := fun hp => by
  obtain ⟨n, hn⟩ := List.getElem?_of_mem hp
  have hl : n < L.length := by rw [← A.len]; exact (List.getElem?_eq_some_iff.mp hn).1
  obtain ⟨a, e, c⟩ := A.cell n L[n] (List.getElem?_eq_getElem hl)
  rw [hn] at e; cases e
  cases hc : L[n] with
  | lst xs => rw [hc] at c; obtain ⟨vs, q, _⟩ := c; rw [h] at q; cases q
  | ins C fs => rw [hc] at c; obtain ⟨dx, gs, q, _⟩ := c; rw [h] at q; cases q
theorem CellOk.keep {a : Addr} {c : Cell} (e : Ext ρ H ρ' H') (k : ∀ o, H a = some o → H' a = some o) (ko : ∀ b, H b = some (.own a) → H' b = some (.own a)) (h : CellOk K ρ H a c) : CellOk K ρ' H' a c := by
  cases c with
  | lst xs => obtain ⟨vs, q, r⟩ := h; exact ⟨vs, k _ q, Reps.mono e _ r⟩
  | ins C fs => obtain ⟨dx, gs, q, d, r⟩ := h; exact ⟨dx, gs, k _ q, ko _ d, FReps.mono e _ r⟩
/-- a new object that is not of the cells -/
theorem ext_new {p : Addr} {o : HO} (h : H p = none) : Ext ρ H ρ (upd H p o) :=
  ⟨fun a xs e => by rw [upd_ne (ne_of_none e h)]; exact e, fun a o u e => by rw [upd_ne (ne_of_none e h)]; exact e, ⟨[], (List.append_nil ρ).symm⟩⟩
theorem ext_more (ρ t : List Addr) (H : Hp) : Ext ρ H (ρ ++ t) H := ⟨fun _ _ h => h, fun _ _ _ h => h, ⟨t, rfl⟩⟩
theorem Ab.new (A : Ab K ρ H L) {p : Addr} {o : HO} (h : H p = none) : Ab K ρ (upd H p o) L :=
  ⟨A.len, A.nd, fun n c e => by
    obtain ⟨a, e1, e2⟩ := A.cell n c e
    exact ⟨a, e1, e2.keep (ext_new h) (fun o q => by rw [upd_ne (ne_of_none q h)]; exact q) fun b q => by rw [upd_ne (ne_of_none q h)]; exact q⟩⟩
theorem Ab.alloc (A : Ab K ρ H L) {p : Addr} {vs : List V} {xs : List D} (h : H p = none) (r : Reps K ρ H xs vs) : Ab K (ρ ++ [p]) (upd H p (.lst vs)) (L ++ [.lst xs]) := by
  have e1 : Ext ρ H ρ (upd H p (.lst vs)) := ext_new h
  have e2 : Ext ρ (upd H p (.lst vs)) (ρ ++ [p]) (upd H p (.lst vs)) := ext_more ρ [p] _
  have A1 : Ab K ρ (upd H p (.lst vs)) L := A.new h
  refine ⟨by rw [List.length_append, List.length_append, A.len]; rfl, ?_, fun n c e => ?_⟩
  · rw [List.nodup_append]
    refine ⟨A.nd, by simp, fun a ha b hb e => ?_⟩
    rw [List.mem_singleton.mp hb] at e
    exact A.fresh h (e ▸ ha)
  · by_cases hn : n < L.length
    · rw [List.getElem?_append_left hn] at e
      obtain ⟨a, q1, q2⟩ := A1.cell n c e
      exact ⟨a, e2.at q1, q2.keep e2 (fun _ q => q) fun _ q => q⟩
    · have hn' : n = L.length := by
        have := (List.getElem?_eq_some_iff.mp e).1
        rw [List.length_append] at this
        simp at this; omega
      subst hn'
      rw [List.getElem?_append_right (Nat.le_refl _), Nat.sub_self] at e
      simp at e; subst e
      refine ⟨p, ?_, vs, upd_same, Reps.mono (e1.trans e2) _ r⟩
      rw [← A.len, List.getElem?_append_right (Nat.le_refl _), Nat.sub_self]; rfl
theorem nodup_at (A : Ab K ρ H L) {n m : Nat} {a : Addr} (h1 : ρ[n]? = some a) (h2 : ρ[m]? = some a) : n = m := by
  obtain ⟨l1, e1⟩ := List.getElem?_eq_some_iff.mp h1
  obtain ⟨l2, e2⟩ := List.getElem?_eq_some_iff.mp h2
  exact (List.getElem_inj A.nd).mp (e1.trans e2.symm)
/-- a list is changed -/
theorem ext_set {a : Addr} {vs ws : List V} (h : H a = some (.lst vs)) : Ext ρ H ρ (upd H a (.lst ws)) :=
  ⟨fun b xs e => by rw [upd_ne (ne_of e h (by intro z; cases z))]; exact e, fun b o u e => by rw [upd_ne (ne_of e h (by intro z; cases z))]; exact e, ⟨[], (List.append_nil ρ).symm⟩⟩
theorem Ab.setl (A : Ab K ρ H L) {n : Nat} {xs ys : List D} {a : Addr} {ws : List V} (hL : L[n]? = some (.lst xs)) (ha : ρ[n]? = some a) (r : Reps K ρ H ys ws) : Ab K ρ (upd H a (.lst ws)) (L.set n (.lst ys)) := by
  obtain ⟨a', e1, vs, hv, _⟩ := A.cell n _ hL
  rw [ha] at e1; cases e1
  have ex : Ext ρ H ρ (upd H a (.lst ws)) := ext_set hv
  refine ⟨by rw [List.length_set]; exact A.len, A.nd, fun m c e => ?_⟩
  by_cases hm : n = m
  · subst hm
    rw [List.getElem?_set_self (List.getElem?_eq_some_iff.mp hL).1] at e
    cases e
    exact ⟨a, ha, ws, upd_same, Reps.mono ex _ r⟩
  · rw [List.getElem?_set_ne hm] at e
    obtain ⟨b, q1, q2⟩ := A.cell m c e
    have nb : b ≠ a := fun z => hm (nodup_at A ha (z ▸ q1))
    exact ⟨b, q1, q2.keep ex (fun o q => by rw [upd_ne nb]; exact q) fun d q => by rw [upd_ne (ne_of q hv (by intro z; cases z))]; exact q⟩
theorem Ab.at (A : Ab K ρ H L) {n : Nat} {xs : List D} (hL : L[n]? = some (.lst xs)) {v : V} (r : Rep K ρ H (.loc n) v) : ∃ a vs, v = .ref a ∧ ρ[n]? = some a ∧ H a = some (.lst vs) ∧ Reps K ρ H xs vs := by
  obtain ⟨a, rfl, h⟩ := r
  obtain ⟨a', e1, vs, hv, q⟩ := A.cell n _ hL
  rw [h] at e1; cases e1
  exact ⟨a, vs, rfl, h, hv, q⟩
end
/-! ## the judgements -/
def Env3 (K : PySem.W.Frag) (ρ : List Addr) (H : Hp) (σ : L2.St) (Γ : G3) : Prop := σ.length = Γ.length ∧ ∀ (i : Nat) (d : D), Γ[i]? = some (some d) → ∃ v, σ[i]? = some (some v) ∧ Rep K ρ H d v
/-- what must hold of a result so that what is wanted holds -/
def Hold {α β : Type} (K : PySem.W.Frag) (W : WX) (σ : L2.St) (ρ : List Addr) (H : Hp) (rep : List Addr → Hp → α → β → Prop) (Q : β → Hp → Prop) : R3 α → Prop
  | .val d L => ∀ v H' ρ', Ext ρ H ρ' H' → rep ρ' H' d v → Ab K ρ' H' L → Q v H'
  | .exn c L => ∀ H' ρ', Ext ρ H ρ' H' → Ab K ρ' H' L → W (.ref (He.ga K c)) none σ H'
  | .stuck => False
def SHold (K : PySem.W.Frag) (W : WX) (ρ : List Addr) (H : Hp) (Dn : Ends) : Out → Prop
  | .nx Γ L => ∀ σ' H' ρ', Ext ρ H ρ' H' → Env3 K ρ' H' σ' Γ → Ab K ρ' H' L → Dn.nx σ' H'
  | .ret d L => ∀ v H' ρ', Ext ρ H ρ' H' → Rep K ρ' H' d v → Ab K ρ' H' L → Dn.rt v H'
  | .brk Γ L => ∀ σ' H' ρ', Ext ρ H ρ' H' → Env3 K ρ' H' σ' Γ → Ab K ρ' H' L → Dn.bk σ' H'
  | .ct Γ L => ∀ σ' H' ρ', Ext ρ H ρ' H' → Env3 K ρ' H' σ' Γ → Ab K ρ' H' L → Dn.ct σ' H'
  | .exn c Γ L => ∀ σ' H' ρ', Ext ρ H ρ' H' → Env3 K ρ' H' σ' Γ → Ab K ρ' H' L → W (.ref (He.ga K c)) none σ' H'
  | .stuck => False
def RepB (ρ : List Addr) (H : Hp) (a b : Bool) : Prop := a = b
def PE3 (X : Cx) (W : WX) (e : Expr) (f : E3) : Prop := ∃ te, PE X e te ∧ ∀ σ H ρ Γ L Q, Env3 X.K ρ H σ Γ → Ab X.K ρ H L → Hold X.K W σ ρ H (Rep X.K) Q (f Γ L) → te σ H Q
def PT3 (X : Cx) (W : WX) (e : Expr) (f : T3) : Prop := ∃ te, PT X e te ∧ ∀ σ H ρ Γ L Q, Env3 X.K ρ H σ Γ → Ab X.K ρ H L → Hold X.K W σ ρ H RepB Q (f Γ L) → te σ H Q
def PW3 (X : Cx) (W : WX) (e : Expr) (f : T3) : Prop := ∃ te, PW X e te ∧ ∀ σ H ρ Γ L Q, Env3 X.K ρ H σ Γ → Ab X.K ρ H L → Hold X.K W σ ρ H RepB Q (f Γ L) → te σ H Q
def PA3 (X : Cx) (W : WX) (es : List Expr) (f : A3) : Prop := ∃ te, PA X es te ∧ ∀ σ H ρ Γ L Q, Env3 X.K ρ H σ Γ → Ab X.K ρ H L → Hold X.K W σ ρ H (Reps X.K) Q (f Γ L) → te σ H Q
def PS3 (X : Cx) (W : WX) (st : Stmt) (t : S3) : Prop := ∃ ts, PS X st ts ∧ ∀ σ H ρ Γ L Dn, Env3 X.K ρ H σ Γ → Ab X.K ρ H L → SHold X.K W ρ H Dn (t Γ L) → ts Dn σ H
def PSs3 (X : Cx) (W : WX) (st : List Stmt) (t : S3) : Prop := ∃ ts, PSs X st ts ∧ ∀ σ H ρ Γ L Dn, Env3 X.K ρ H σ Γ → Ab X.K ρ H L → SHold X.K W ρ H Dn (t Γ L) → ts Dn σ H
section
variable {K : PySem.W.Frag} {W : WX} {σ : L2.St} {ρ ρ1 ρ' : List Addr} {H H1 H' : Hp} {Γ : G3} {L : Lh}
theorem Env3.mono (e : Ext ρ H ρ' H') (h : Env3 K ρ H σ Γ) : Env3 K ρ' H' σ Γ := ⟨h.1, fun i d q => by
  obtain ⟨v, a, b⟩ := h.2 i d q
  exact ⟨v, a, Rep.mono e d b⟩⟩
theorem Env3.set (h : Env3 K ρ H σ Γ) {i : Nat} {d : D} {v : V} (r : Rep K ρ H d v) : Env3 K ρ H (σ.set i (some v)) (Γ.set i (some d)) := ⟨by simp [h.1], fun j e q => by
  by_cases hj : i = j
  · subst hj
    by_cases hi : i < Γ.length
    · rw [List.getElem?_set_self hi] at q
      cases q
      exact ⟨v, List.getElem?_set_self (by rw [h.1]; exact hi), r⟩
    · rw [List.getElem?_eq_none (by simp; omega)] at q; cases q
  · rw [List.getElem?_set_ne hj] at q
    obtain ⟨u, a, b⟩ := h.2 j e q
    exact ⟨u, by rw [List.getElem?_set_ne hj]; exact a, b⟩⟩
theorem Hold.ext {α β : Type} {rep : List Addr → Hp → α → β → Prop} {Q : β → Hp → Prop} (e : Ext ρ H ρ1 H1) : ∀ {r : R3 α}, Hold K W σ ρ H rep Q r → Hold K W σ ρ1 H1 rep Q r
  | .val d L, h => fun v H' ρ' e2 => h v H' ρ' (e.trans e2)
  | .exn c L, h => fun H' ρ' e2 => h H' ρ' (e.trans e2)
  | .stuck, h => h
theorem SHold.ext {Dn : Ends} (e : Ext ρ H ρ1 H1) : ∀ {r : Out}, SHold K W ρ H Dn r → SHold K W ρ1 H1 Dn r
  | .nx Γ L, h => fun v H' ρ' e2 => h v H' ρ' (e.trans e2)
  | .ret c L, h => fun dd H' ρ' e2 => h dd H' ρ' (e.trans e2)
  | .brk Γ L, h => fun v H' ρ' e2 => h v H' ρ' (e.trans e2)
  | .ct Γ L, h => fun v H' ρ' e2 => h v H' ρ' (e.trans e2)
  | .exn c Γ L, h => fun σ' H' ρ' e2 => h σ' H' ρ' (e.trans e2)
  | .stuck, h => h
theorem hbind {α β γ δ : Type} {rep : List Addr → Hp → α → β → Prop} {rep' : List Addr → Hp → γ → δ → Prop} {Q : δ → Hp → Prop} {R : β → Hp → Prop} {r : R3 α} {f : α → Lh → R3 γ}
    (h : Hold K W σ ρ H rep' Q (r.bind f)) (n : ∀ d L1 v H1 ρ1, Ext ρ H ρ1 H1 → rep ρ1 H1 d v → Ab K ρ1 H1 L1 → Hold K W σ ρ1 H1 rep' Q (f d L1) → R v H1) : Hold K W σ ρ H rep R r := by
  cases r with
  | val d L => exact fun v H' ρ' e r a => n d L v H' ρ' e r a (Hold.ext e h)
  | exn c L => exact h
  | stuck => exact h
theorem Hold.imp {α β : Type} {rep : List Addr → Hp → α → β → Prop} {Q Q' : β → Hp → Prop} {r : R3 α} (h : Hold K W σ ρ H rep Q r) (n : ∀ v H', Q v H' → Q' v H') : Hold K W σ ρ H rep Q' r := by
  cases r with
  | val d L => exact fun v H' ρ' e r a => n v H' (h v H' ρ' e r a)
  | exn c L => exact h
  | stuck => exact h
theorem Hold.mk {α β : Type} {rep : List Addr → Hp → α → β → Prop} {Q : β → Hp → Prop} {d : α} {v : β} (h : Hold K W σ ρ H rep Q (.val d L)) (A : Ab K ρ H L) (r : rep ρ H d v) : Q v H := h v H ρ (Ext.refl ρ H) r A
end
/-! ## expressions -/
section
variable {X : Cx} {W : WX} {a b c : Expr} {fa fb fc : E3} {pos : Pos}
@[simp] def eVar (i : Nat) (Γ : G3) (L : Lh) : R3 D := match Γ[i]? with
  | some (some d) => .val d L
  | _ => .stuck
theorem e3_var (i : Nat) {x : Str} (hN : X.N[i]? = some x := by rfl) (hv : Vis X.env.scope x := by first | exact Or.inl rfl | exact Or.inr (Or.inl rfl) | exact Or.inr (Or.inr rfl)) (hd : (x == ("__debug__" : Str)) = false := by decide)
    (hcd : (x == ("__classdict__" : Str)) = false := by decide) : PE3 X W (.Name x pos) (eVar i) := by
  refine ⟨_, pe_var hN hv hd hcd, fun σ H ρ Γ L Q E A h => ?_⟩
  unfold eVar at h
  split at h
  · rename_i d q
    obtain ⟨v, e1, e2⟩ := E.2 i d q
    exact ⟨v, e1, h.mk A e2⟩
  · exact h.elim
@[simp] def eC (d : D) (_ : G3) (L : Lh) : R3 D := .val d L
theorem e3_int {i : Int} {j} : PE3 X W (.Constant (.int i) j pos) (eC (.int i)) := ⟨_, pe_int, fun σ H ρ Γ L Q E A h => h.mk A rfl⟩
theorem e3_bl {i : Bool} {j} : PE3 X W (.Constant (.bool i) j pos) (eC (.bl i)) := ⟨_, pe_bl, fun σ H ρ Γ L Q E A h => h.mk A rfl⟩
theorem e3_non {j} : PE3 X W (.Constant .none j pos) (eC .non) := ⟨_, pe_non, fun σ H ρ Γ L Q E A h => h.mk A rfl⟩
theorem e3_str {x : Str} {j} : PE3 X W (.Constant (.str x) j pos) (eC (.str x)) := ⟨_, pe_str, fun σ H ρ Γ L Q E A h => h.mk A rfl⟩
/-- a module's constant -/
theorem e3_glob {x : Str} {v : V} {u : Value} {d : D} (hg : Gl X x) (hm : X.mg x = some u) (r : RelV v u) (hr : ∀ ρ H, Rep X.K ρ H d v) (hd : (x == ("__debug__" : Str)) = false := by decide) : PE3 X W (.Name x pos) (eC d) :=
  ⟨_, pe_glob hg hm r hd, fun σ H ρ Γ L Q E A h => h.mk A (hr ρ H)⟩
/-- operators by values: what a rule of the layer asks is met where the level-3 operator answers -/
abbrev Op3 := D → D → Lh → R3 D
def OpOk (K : PySem.W.Frag) (r : R2) (f : Op3) : Prop := ∀ W σ ρ H L (Q : VK) x y vx vy, Ab K ρ H L → Rep K ρ H x vx → Rep K ρ H y vy → Hold K W σ ρ H (Rep K) Q (f x y L) → r vx vy H Q
abbrev Un3 := D → Lh → R3 D
def UnOk (K : PySem.W.Frag) (r : V → Hp → VK → Prop) (f : Un3) : Prop := ∀ W σ ρ H L (Q : VK) x vx, Ab K ρ H L → Rep K ρ H x vx → Hold K W σ ρ H (Rep K) Q (f x L) → r vx H Q
def CaOk (K : PySem.W.Frag) (r : List V → Hp → VK → Prop) (f : Fn3) : Prop := ∀ W σ ρ H L (Q : VK) xs vs, Ab K ρ H L → Reps K ρ H xs vs → Hold K W σ ρ H (Rep K) Q (f xs L) → r vs H Q
@[simp] def eOp (f : Op3) (fa fb : E3) (Γ : G3) (L : Lh) : R3 D := (fa Γ L).bind fun x L1 => (fb Γ L1).bind fun y L2 => f x y L2
@[simp] def eUn (f : Un3) (fa : E3) (Γ : G3) (L : Lh) : R3 D := (fa Γ L).bind fun x L1 => f x L1
theorem top_hold {ta tb : TE} {r : R2} {f : Op3} (hr : OpOk X.K r f)
    (ha : ∀ σ H ρ Γ L Q, Env3 X.K ρ H σ Γ → Ab X.K ρ H L → Hold X.K W σ ρ H (Rep X.K) Q (fa Γ L) → ta σ H Q) (hb : ∀ σ H ρ Γ L Q, Env3 X.K ρ H σ Γ → Ab X.K ρ H L → Hold X.K W σ ρ H (Rep X.K) Q (fb Γ L) → tb σ H Q) :
    ∀ σ H ρ Γ L Q, Env3 X.K ρ H σ Γ → Ab X.K ρ H L → Hold X.K W σ ρ H (Rep X.K) Q (eOp f fa fb Γ L) → tOp r ta tb σ H Q := by
  intro σ H ρ Γ L Q E A h
  refine ha σ H ρ Γ L _ E A (hbind h fun x L1 vx H1 ρ1 e1 r1 A1 h1 => ?_)
  refine hb σ H1 ρ1 Γ L1 _ (E.mono e1) A1 (hbind h1 fun y L2 vy H2 ρ2 e2 r2 A2 h2 => ?_)
  exact hr W σ ρ2 H2 L2 Q x y vx vy A2 (Rep.mono e2 x r1) r2 h2
theorem e3_op {op : Operator} {r : R2} {f : Op3} (ho : OpR X (binaryOp op) r) (hr : OpOk X.K r f) (ha : PE3 X W a fa) (hb : PE3 X W b fb) : PE3 X W (.BinOp a op b pos) (eOp f fa fb) := by
  obtain ⟨ta, pa, qa⟩ := ha
  obtain ⟨tb, pb, qb⟩ := hb
  exact ⟨_, pe_op ho pa pb, top_hold hr qa qb⟩
theorem e3_cmp {op : CmpOp} {r : R2} {f : Op3} (ho : OpR X (compareOp op) r) (hr : OpOk X.K r f) (ha : PE3 X W a fa) (hb : PE3 X W b fb) (hm : behindInMarks op b = false := by rfl) : PE3 X W (.Compare a [op] [b] pos) (eOp f fa fb) := by
  obtain ⟨ta, pa, qa⟩ := ha
  obtain ⟨tb, pb, qb⟩ := hb
  exact ⟨_, pe_cmpR ho pa pb hm, top_hold hr qa qb⟩
theorem e3_ix {r : R2} {f : Op3} (ho : IxR X r) (hr : OpOk X.K r f) (ha : PE3 X W a fa) (hb : PE3 X W b fb) (hs : PlainIx b := by exact fun _ _ => rfl) : PE3 X W (.Subscript a b pos) (eOp f fa fb) := by
  obtain ⟨ta, pa, qa⟩ := ha
  obtain ⟨tb, pb, qb⟩ := hb
  exact ⟨_, pe_ix ho pa pb hs, top_hold hr qa qb⟩
theorem e3_un {op : UnaryOp} {r : V → Hp → VK → Prop} {f : Un3} (ho : UnR X (unaryOp op) r) (hr : UnOk X.K r f) (ha : PE3 X W a fa) : PE3 X W (.UnaryOp op a pos) (eUn f fa) := by
  obtain ⟨ta, pa, qa⟩ := ha
  refine ⟨_, pe_un ho pa, fun σ H ρ Γ L Q E A h => ?_⟩
  refine qa σ H ρ Γ L _ E A (hbind h fun x L1 vx H1 ρ1 e1 r1 A1 h1 => ?_)
  exact hr W σ ρ1 H1 L1 Q x vx A1 r1 h1
/-! arguments, displays -/
@[simp] def aNil (_ : G3) (L : Lh) : R3 (List D) := .val [] L
@[simp] def aCons (f : E3) (g : A3) (Γ : G3) (L : Lh) : R3 (List D) := (f Γ L).bind fun x L1 => (g Γ L1).bind fun xs L2 => .val (x :: xs) L2
theorem a3_nil : PA3 X W [] aNil := ⟨_, pa_nil, fun σ H ρ Γ L Q E A h => h.mk A rfl⟩
theorem a3_cons {es : List Expr} {f : E3} {g : A3} (ha : PE3 X W a f) (hr : PA3 X W es g) (hs : starEach (a :: es) X.env = (false, eval a X.env) :: starEach es X.env := by rfl) : PA3 X W (a :: es) (aCons f g) := by
  obtain ⟨ta, pa, qa⟩ := ha
  obtain ⟨tr, pr, qr⟩ := hr
  refine ⟨_, pa_cons pa pr hs, fun σ H ρ Γ L Q E A h => ?_⟩
  refine qa σ H ρ Γ L _ E A (hbind h fun x L1 vx H1 ρ1 e1 r1 A1 h1 => ?_)
  refine qr σ H1 ρ1 Γ L1 _ (E.mono e1) A1 (hbind h1 fun xs L2 vs H2 ρ2 e2 r2 A2 h2 => ?_)
  exact h2.mk A2 ⟨vx, vs, rfl, Rep.mono e2 x r1, r2⟩
@[simp] def eTup (g : A3) (Γ : G3) (L : Lh) : R3 D := (g Γ L).bind fun xs L1 => if xs.length ≤ 1000 then .val (.tup xs) L1 else .stuck
@[simp] def eLst (g : A3) (Γ : G3) (L : Lh) : R3 D := (g Γ L).bind fun xs L1 => if xs.length ≤ 1000 then .val (.loc L1.length) (L1 ++ [.lst xs]) else .stuck
theorem e3_tup {es : List Expr} {g : A3} {k} (h : PA3 X W es g) : PE3 X W (.Tuple es k pos) (eTup g) := by
  obtain ⟨tr, pr, qr⟩ := h
  refine ⟨_, pe_tup pr, fun σ H ρ Γ L Q E A h => ?_⟩
  refine qr σ H ρ Γ L _ E A (hbind h fun xs L1 vs H1 ρ1 e1 r1 A1 h1 => ?_)
  split at h1
  · rename_i hl
    refine ⟨?_, fun p hp => h1 _ _ ρ1 (ext_new hp) ⟨p, vs, rfl, SqT.of upd_same, Reps.mono (ext_new hp) _ r1⟩ (A1.new hp)⟩
    rw [Reps.length r1]
    exact Nat.le_trans hl (by decide)
  · exact h1.elim
/-- the end of a rule that lays a list -/
theorem hold_new {K : PySem.W.Frag} {σ : L2.St} {ρ : List Addr} {H : Hp} {L : Lh} {Q : VK} {xs : List D} {vs : List V} (h : Hold K W σ ρ H (Rep K) Q (.val (.loc L.length) (L ++ [.lst xs]))) (A : Ab K ρ H L) (r : Reps K ρ H xs vs) :
    ∀ p, H p = none → Q (.ref p) (upd H p (.lst vs)) := fun p hp =>
  h _ _ (ρ ++ [p]) ((ext_new hp).trans (ext_more ρ [p] _)) ⟨p, rfl, by rw [← A.len, List.getElem?_append_right (Nat.le_refl _), Nat.sub_self]; rfl⟩ (A.alloc hp r)
theorem e3_lst {es : List Expr} {g : A3} (h : PA3 X W es g) : PE3 X W (.List es pos) (eLst g) := by
  obtain ⟨tr, pr, qr⟩ := h
  refine ⟨_, pe_lst pr, fun σ H ρ Γ L Q E A h => ?_⟩
  refine qr σ H ρ Γ L _ E A (hbind h fun xs L1 vs H1 ρ1 e1 r1 A1 h1 => ?_)
  split at h1
  · rename_i hl
    exact ⟨by rw [Reps.length r1]; exact Nat.le_trans hl (by decide), hold_new h1 A1 r1⟩
  · exact h1.elim
/-! built-ins by name -/
@[simp] def eCall (f : Fn3) (g : A3) (Γ : G3) (L : Lh) : R3 D := (g Γ L).bind f
theorem e3_blt {e : Expr} {es : List Expr} {x : Str} {id : String} {p : Pos} {r : List V → Hp → VK → Prop} {f : Fn3} {g : A3} (hc : CallR X (.builtin id) r) (hr : CaOk X.K r f) (hm : X.mg x = none) (ha : PA3 X W (e :: es) g) (hg : Gl X x := by rfl) (hv : bootBuiltins x = some (.builtin id) := by decide +kernel)
    (hn : x ≠ "__name__" := by decide) (hdb : (x == ("__debug__" : Str)) = false := by decide)
    (hs : starEach (e :: es) X.env = (false, eval e X.env) :: starEach es X.env := by rfl) (hpl : (backTo pos (starEach es X.env)).any (·.1) = false := by rfl) : PE3 X W (.Call (.Name x p) (e :: es) [] pos) (eCall f g) := by
  obtain ⟨ta, pa, qa⟩ := ha
  refine ⟨_, pe_callB hc hg hm hv pa hn hdb hs hpl, fun σ H ρ Γ L Q E A h => ?_⟩
  exact qa σ H ρ Γ L _ E A (hbind h fun xs L1 vs H1 ρ1 e1 r1 A1 h1 => hr W σ ρ1 H1 L1 Q xs vs A1 r1 h1)
theorem e3_bty {e : Expr} {es : List Expr} {x : Str} {id : String} {p : Pos} {r : List V → Hp → VK → Prop} {f : Fn3} {g : A3} (hc : CallR X (.type id) r) (hr : CaOk X.K r f) (hm : X.mg x = none) (ha : PA3 X W (e :: es) g) (hg : Gl X x := by rfl) (hv : bootBuiltins x = some (.type id) := by decide +kernel)
    (hn : x ≠ "__name__" := by decide) (hdb : (x == ("__debug__" : Str)) = false := by decide)
    (hs : starEach (e :: es) X.env = (false, eval e X.env) :: starEach es X.env := by rfl) (hpl : (backTo pos (starEach es X.env)).any (·.1) = false := by rfl) : PE3 X W (.Call (.Name x p) (e :: es) [] pos) (eCall f g) := by
  obtain ⟨ta, pa, qa⟩ := ha
  refine ⟨_, pe_callTy hc hg hm hv pa hn hdb hs hpl, fun σ H ρ Γ L Q E A h => ?_⟩
  exact qa σ H ρ Γ L _ E A (hbind h fun xs L1 vs H1 ρ1 e1 r1 A1 h1 => hr W σ ρ1 H1 L1 Q xs vs A1 r1 h1)
/-! methods of built-in types -/
def MtOk (K : PySem.W.Frag) (T : String) (r : V → List V → Hp → VK → Prop) (f : D → List D → Lh → R3 D) : Prop := ∀ W σ ρ H L (Q : VK) x xs vx vs, Ab K ρ H L → Rep K ρ H x vx → Reps K ρ H xs vs → Hold K W σ ρ H (Rep K) Q (f x xs L) → r vx vs H Q
/-- a text, or a list that stands -/
def isTy (T : String) (x : D) (L : Lh) : Bool := match x with
  | .str _ => T == "str"
  | .loc n => T == "list" && match L[n]? with
    | some (.lst _) => true
    | _ => false
  | _ => false
theorem isTy_ok {K : PySem.W.Frag} {T : String} {x : D} {v : V} {ρ : List Addr} {H : Hp} {L : Lh} (A : Ab K ρ H L) (r : Rep K ρ H x v) (h : isTy T x L = true) : tyV K T v H := by
  unfold isTy at h
  split at h
  · rename_i z
    rw [show v = .str z from r]
    have e : T = "str" := by simpa using h
    subst e
    exact rfl
  · rename_i n
    rw [Bool.and_eq_true] at h
    have e : T = "list" := by simpa using h.1
    subst e
    have h2 := h.2
    split at h2
    · rename_i xs q
      obtain ⟨a, vs, rfl, _, hv, _⟩ := A.at q r
      exact .inl ⟨rfl, _, SqL.of hv⟩
    · cases h2
  · cases h
@[simp] def eMt (T : String) (f : D → List D → Lh → R3 D) (fo : E3) (g : A3) (Γ : G3) (L : Lh) : R3 D := (fo Γ L).bind fun x L1 => if isTy T x L1 = true then (g Γ L1).bind fun xs L2 => f x xs L2 else .stuck
theorem e3_mt {T id : String} {name : Str} {o e : Expr} {es : List Expr} {apos : Pos} {r : V → List V → Hp → VK → Prop} {f : D → List D → Lh → R3 D} {fo : E3} {g : A3} (pa : PlainAttrs T) (slot : Slot T name id) (hty : typeOf (.builtin id) = pure (.type "method_descriptor")) (hm : MtR X id r) (hr : MtOk X.K T r f)
    (ho : PE3 X W o fo) (ha : PA3 X W (e :: es) g) (hbase : attributeBase o name X.env (eval o X.env) = eval o X.env := by rfl)
    (hfew : ((backTo pos (starEach (e :: es) X.env)).all (fun x => !x.1) && (backToKw pos (keywordEach [] X.env)).all (fun x => x.1.isSome)
      && decide ((e :: es).length + ([] : List Keyword).length + (if ([] : List Keyword).isEmpty then 0 else 1) < 30)) = true := by rfl)
    (hline : (apos.endLine == pos.line) = true := by rfl) (hs : starEach (e :: es) X.env = (false, eval e X.env) :: starEach es X.env := by rfl) (hpl : (backTo pos (starEach es X.env)).any (·.1) = false := by rfl) :
    PE3 X W (.Call (.Attribute o name apos) (e :: es) [] pos) (eMt T f fo g) := by
  obtain ⟨to, po, qo⟩ := ho
  obtain ⟨ta, pa', qa⟩ := ha
  refine ⟨_, pe_bm pa slot hty hm po pa' hbase hfew hline hs hpl, fun σ H ρ Γ L Q E A h => ?_⟩
  refine qo σ H ρ Γ L _ E A (hbind h fun x L1 vx H1 ρ1 e1 r1 A1 h1 => ?_)
  split at h1
  · rename_i ht
    refine ⟨isTy_ok A1 r1 ht, ?_⟩
    refine qa σ H1 ρ1 Γ L1 _ (E.mono e1) A1 (hbind h1 fun xs L2 vs H2 ρ2 e2 r2 A2 h2 => ?_)
    exact hr W σ ρ2 H2 L2 Q x xs vx vs A2 (Rep.mono e2 x r1) r2 h2
  · exact h1.elim
@[simp] def eMt0 (T : String) (f : D → List D → Lh → R3 D) (fo : E3) (Γ : G3) (L : Lh) : R3 D := (fo Γ L).bind fun x L1 => if isTy T x L1 = true then f x [] L1 else .stuck
theorem e3_mt0 {T id : String} {name : Str} {o : Expr} {apos : Pos} {r : V → List V → Hp → VK → Prop} {f : D → List D → Lh → R3 D} {fo : E3} (pa : PlainAttrs T) (slot : Slot T name id) (hty : typeOf (.builtin id) = pure (.type "method_descriptor")) (hm : MtR X id r) (hr : MtOk X.K T r f)
    (ho : PE3 X W o fo) (hbase : attributeBase o name X.env (eval o X.env) = eval o X.env := by rfl) (hline : (apos.endLine == pos.line) = true := by rfl) :
    PE3 X W (.Call (.Attribute o name apos) [] [] pos) (eMt0 T f fo) := by
  obtain ⟨to, po, qo⟩ := ho
  refine ⟨_, pe_bm0 pa slot hty hm po hbase hline, fun σ H ρ Γ L Q E A h => ?_⟩
  refine qo σ H ρ Γ L _ E A (hbind h fun x L1 vx H1 ρ1 e1 r1 A1 h1 => ?_)
  split at h1
  · rename_i ht
    exact ⟨isTy_ok A1 r1 ht, hr W σ ρ1 H1 L1 Q x [] vx [] A1 r1 rfl h1⟩
  · exact h1.elim
/-! tests -/
@[simp] def asB (x : D) (L : Lh) : R3 Bool := match x with
  | .bl c => .val c L
  | _ => .stuck
theorem asB_hold {K : PySem.W.Frag} {σ : L2.St} {ρ : List Addr} {H : Hp} {L : Lh} {Q : Bool → Hp → Prop} {d : D} {v : V} (A : Ab K ρ H L) (r : Rep K ρ H d v) (h : Hold K W σ ρ H RepB Q (asB d L)) : ∃ k, v = .bl k ∧ Q k H := by
  unfold asB at h
  split at h
  · exact ⟨_, r, h.mk A rfl⟩
  · exact h.elim
@[simp] def tE (f : E3) (Γ : G3) (L : Lh) : R3 Bool := (f Γ L).bind asB
theorem t3_val {e : Expr} {f : E3} (h : PE3 X W e f) (he : ∀ whole, isTrue e X.env whole = (do let v ← whole; standAt e.pos; holding [v] (truthy v)) := by intro _; rfl) : PT3 X W e (tE f) := by
  obtain ⟨te, p, q⟩ := h
  refine ⟨_, pt_val p he, fun σ H ρ Γ L Q E A h => ?_⟩
  exact q σ H ρ Γ L _ E A (hbind h fun x L1 vx H1 ρ1 e1 r1 A1 h1 => asB_hold A1 r1 h1)
theorem t3_cmp {op : CmpOp} {r : R2} {f : Op3} (ho : OpR X (compareOp op) r) (hr : OpOk X.K r f) (ha : PE3 X W a fa) (hb : PE3 X W b fb) (hm : behindInMarks op b = false := by rfl) : PT3 X W (.Compare a [op] [b] pos) (tE (eOp f fa fb)) := by
  obtain ⟨ta, pa, qa⟩ := ha
  obtain ⟨tb, pb, qb⟩ := hb
  refine ⟨_, pt_cmpR ho pa pb hm, fun σ H ρ Γ L Q E A h => ?_⟩
  refine top_hold hr qa qb σ H ρ Γ L _ E A ?_
  exact hbind h fun x L1 vx H1 ρ1 e1 r1 A1 h1 => asB_hold A1 r1 h1
@[simp] def tAnd3 (f g : T3) (Γ : G3) (L : Lh) : R3 Bool := (f Γ L).bind fun c L1 => if c = true then g Γ L1 else .val false L1
@[simp] def tOr3 (f g : T3) (Γ : G3) (L : Lh) : R3 Bool := (f Γ L).bind fun c L1 => if c = true then .val true L1 else g Γ L1
@[simp] def tNot3 (f : T3) (Γ : G3) (L : Lh) : R3 Bool := (f Γ L).bind fun c L1 => .val (!c) L1
variable {tA tB : T3} {rest : List Expr}
theorem w3_and1 (h : PT3 X W a tA) : PW3 X W (.BoolOp .And [a] pos) tA := by
  obtain ⟨te, p, q⟩ := h
  exact ⟨_, pw_and1 p, q⟩
theorem w3_or1 (h : PT3 X W a tA) : PW3 X W (.BoolOp .Or [a] pos) tA := by
  obtain ⟨te, p, q⟩ := h
  exact ⟨_, pw_or1 p, q⟩
theorem w3_and (h : PT3 X W a tA) (h2 : PW3 X W (.BoolOp .And (b :: rest) pos) tB) : PW3 X W (.BoolOp .And (a :: b :: rest) pos) (tAnd3 tA tB) := by
  obtain ⟨te, p, q⟩ := h
  obtain ⟨tf, p2, q2⟩ := h2
  refine ⟨_, pw_and p p2, fun σ H ρ Γ L Q E A h => ?_⟩
  refine q σ H ρ Γ L _ E A (hbind h fun x L1 vx H1 ρ1 e1 r1 A1 h1 => ?_)
  obtain rfl : x = vx := r1
  cases x with
  | true => exact q2 σ H1 ρ1 Γ L1 Q (E.mono e1) A1 h1
  | false => exact h1.mk A1 rfl
theorem w3_or (h : PT3 X W a tA) (h2 : PW3 X W (.BoolOp .Or (b :: rest) pos) tB) : PW3 X W (.BoolOp .Or (a :: b :: rest) pos) (tOr3 tA tB) := by
  obtain ⟨te, p, q⟩ := h
  obtain ⟨tf, p2, q2⟩ := h2
  refine ⟨_, pw_or p p2, fun σ H ρ Γ L Q E A h => ?_⟩
  refine q σ H ρ Γ L _ E A (hbind h fun x L1 vx H1 ρ1 e1 r1 A1 h1 => ?_)
  obtain rfl : x = vx := r1
  cases x with
  | false => exact q2 σ H1 ρ1 Γ L1 Q (E.mono e1) A1 h1
  | true => exact h1.mk A1 rfl
theorem t3_w (h : PW3 X W a tA) : PT3 X W a tA := by
  obtain ⟨te, p, q⟩ := h
  exact ⟨_, p.pt, q⟩
theorem t3_not (h : PT3 X W a tA) : PT3 X W (.UnaryOp .Not a pos) (tNot3 tA) := by
  obtain ⟨te, p, q⟩ := h
  refine ⟨_, pt_not p, fun σ H ρ Γ L Q E A h => ?_⟩
  refine q σ H ρ Γ L _ E A (hbind h fun x L1 vx H1 ρ1 e1 r1 A1 h1 => ?_)
  obtain rfl : x = vx := r1
  exact h1.mk A1 rfl
/-! and, or, not as values -/
@[simp] def eAnd (fa fb : E3) (Γ : G3) (L : Lh) : R3 D := (fa Γ L).bind fun x L1 => match x with
  | .bl true => fb Γ L1
  | .bl false => .val (.bl false) L1
  | _ => .stuck
@[simp] def eOr (fa fb : E3) (Γ : G3) (L : Lh) : R3 D := (fa Γ L).bind fun x L1 => match x with
  | .bl false => fb Γ L1
  | .bl true => .val (.bl true) L1
  | _ => .stuck
@[simp] def uNot (x : D) (L : Lh) : R3 D := match x with
  | .bl c => .val (.bl (!c)) L
  | _ => .stuck
theorem e3_one {op} (h : PE3 X W a fa) : PE3 X W (.BoolOp op [a] pos) fa := by
  obtain ⟨te, p, q⟩ := h
  exact ⟨_, pe_one p, q⟩
theorem e3_and (h : PE3 X W a fa) (h2 : PE3 X W (.BoolOp .And (b :: rest) pos) fb) : PE3 X W (.BoolOp .And (a :: b :: rest) pos) (eAnd fa fb) := by
  obtain ⟨te, p, q⟩ := h
  obtain ⟨tf, p2, q2⟩ := h2
  refine ⟨_, pe_and p p2, fun σ H ρ Γ L Q E A h => ?_⟩
  refine q σ H ρ Γ L _ E A (hbind h fun x L1 vx H1 ρ1 e1 r1 A1 h1 => ?_)
  split at h1
  · exact ⟨true, r1, q2 σ H1 ρ1 Γ L1 Q (E.mono e1) A1 h1⟩
  · exact ⟨false, r1, h1.mk A1 rfl⟩
  · exact h1.elim
theorem e3_or (h : PE3 X W a fa) (h2 : PE3 X W (.BoolOp .Or (b :: rest) pos) fb) : PE3 X W (.BoolOp .Or (a :: b :: rest) pos) (eOr fa fb) := by
  obtain ⟨te, p, q⟩ := h
  obtain ⟨tf, p2, q2⟩ := h2
  refine ⟨_, pe_or p p2, fun σ H ρ Γ L Q E A h => ?_⟩
  refine q σ H ρ Γ L _ E A (hbind h fun x L1 vx H1 ρ1 e1 r1 A1 h1 => ?_)
  split at h1
  · exact ⟨false, r1, q2 σ H1 ρ1 Γ L1 Q (E.mono e1) A1 h1⟩
  · exact ⟨true, r1, h1.mk A1 rfl⟩
  · exact h1.elim
theorem e3_not (h : PE3 X W a fa) : PE3 X W (.UnaryOp .Not a pos) (eUn uNot fa) := by
  obtain ⟨te, p, q⟩ := h
  refine ⟨_, pe_not p, fun σ H ρ Γ L Q E A h => ?_⟩
  refine q σ H ρ Γ L _ E A (hbind h fun x L1 vx H1 ρ1 e1 r1 A1 h1 => ?_)
  unfold uNot at h1
  split at h1
  · exact ⟨_, r1, h1.mk A1 rfl⟩
  · exact h1.elim
@[simp] def eIf (t : T3) (fa fb : E3) (Γ : G3) (L : Lh) : R3 D := (t Γ L).bind fun c L1 => if c = true then fa Γ L1 else fb Γ L1
theorem e3_if {c : Expr} (h : PT3 X W c tA) (ha : PE3 X W a fa) (hb : PE3 X W b fb) : PE3 X W (.IfExp c a b pos) (eIf tA fa fb) := by
  obtain ⟨te, p, q⟩ := h
  obtain ⟨ta, pa, qa⟩ := ha
  obtain ⟨tb, pb, qb⟩ := hb
  refine ⟨_, pe_ifExp p pa pb, fun σ H ρ Γ L Q E A h => ?_⟩
  refine q σ H ρ Γ L _ E A (hbind h fun x L1 vx H1 ρ1 e1 r1 A1 h1 => ?_)
  obtain rfl : x = vx := r1
  cases x with
  | true => exact qa σ H1 ρ1 Γ L1 Q (E.mono e1) A1 h1
  | false => exact qb σ H1 ρ1 Γ L1 Q (E.mono e1) A1 h1
end
open Classical
/-! ## targets -/
abbrev Tg3 := D → G3 → Lh → Out
abbrev Tgs3 := List D → G3 → Lh → Out
def Agree (is : List Nat) (σ σ' : L2.St) : Prop := σ'.length = σ.length ∧ ∀ i, i ∉ is → σ'[i]? = σ[i]?
theorem Agree.refl (is : List Nat) (σ : L2.St) : Agree is σ σ := ⟨rfl, fun _ _ => rfl⟩
theorem Agree.trans {is js : List Nat} {σ σ1 σ2 : L2.St} (a : Agree is σ σ1) (b : Agree js σ1 σ2) : Agree (is ++ js) σ σ2 :=
  ⟨b.1.trans a.1, fun i h => by
    rw [List.mem_append, not_or] at h
    rw [b.2 i h.2, a.2 i h.1]⟩
def GHold (K : PySem.W.Frag) (W : WX) (is : List Nat) (σ : L2.St) (ρ : List Addr) (H : Hp) (Q : L2.St → Hp → Prop) : Out → Prop
  | .nx Γ L => ∀ σ' H' ρ', Agree is σ σ' → Ext ρ H ρ' H' → Env3 K ρ' H' σ' Γ → Ab K ρ' H' L → Q σ' H'
  | .exn c Γ L => ∀ σ' H' ρ', Ext ρ H ρ' H' → Env3 K ρ' H' σ' Γ → Ab K ρ' H' L → W (.ref (He.ga K c)) none σ' H'
  | _ => False
def PG3 (X : Cx) (W : WX) (tg : Expr) (is : List Nat) (g : Tg3) : Prop := ∃ t, PG X tg t ∧ ∀ σ H ρ Γ L Q d v, Env3 X.K ρ H σ Γ → Ab X.K ρ H L → Rep X.K ρ H d v → GHold X.K W is σ ρ H Q (g d Γ L) → t v σ H Q
def PGs3 (X : Cx) (W : WX) (tgs : List Expr) (is : List Nat) (g : Tgs3) : Prop := ∃ t, PGs X tgs t ∧ ∀ σ H ρ Γ L Q ds vs, Env3 X.K ρ H σ Γ → Ab X.K ρ H L → Reps X.K ρ H ds vs → GHold X.K W is σ ρ H Q (g ds Γ L) → t vs σ H Q
@[simp] def R3.out {α : Type} (r : R3 α) (Γ : G3) (k : α → Lh → Out) : Out := match r with
  | .val a L => k a L
  | .exn c L => .exn c Γ L
  | .stuck => .stuck
section
variable {K : PySem.W.Frag} {W : WX} {σ σ1 : L2.St} {ρ ρ1 ρ' : List Addr} {H H1 H' : Hp} {Γ : G3} {L : Lh} {is js : List Nat} {Q : L2.St → Hp → Prop} {Dn : Ends}
theorem GHold.ext (a : Agree is σ σ1) (e : Ext ρ H ρ1 H1) : ∀ {r : Out}, GHold K W (is ++ js) σ ρ H Q r → GHold K W js σ1 ρ1 H1 Q r
  | .nx Γ L, h => fun s' H' ρ' g e2 => h s' H' ρ' (a.trans g) (e.trans e2)
  | .exn c Γ L, h => fun s' H' ρ' e2 => h s' H' ρ' (e.trans e2)
  | .ret _ _, h => h
  | .brk _ _, h => h
  | .ct _ _, h => h
  | .stuck, h => h
theorem GHold.ext0 (e : Ext ρ H ρ1 H1) {r : Out} (h : GHold K W is σ ρ H Q r) : GHold K W is σ ρ1 H1 Q r := GHold.ext (is := []) (Agree.refl _ _) e h
/-- into a statement -/
theorem sout {α β : Type} {rep : List Addr → Hp → α → β → Prop} {R : β → Hp → Prop} {r : R3 α} {k : α → Lh → Out} (E : Env3 K ρ H σ Γ) (h : SHold K W ρ H Dn (r.out Γ k))
    (n : ∀ d L1 v H1 ρ1, Ext ρ H ρ1 H1 → rep ρ1 H1 d v → Ab K ρ1 H1 L1 → SHold K W ρ1 H1 Dn (k d L1) → R v H1) : Hold K W σ ρ H rep R r := by
  cases r with
  | val d L => exact fun v H' ρ' e r a => n d L v H' ρ' e r a (SHold.ext e h)
  | exn c L => exact fun H' ρ' e a => h σ H' ρ' e (E.mono e) a
  | stuck => exact h
theorem gout {α β : Type} {rep : List Addr → Hp → α → β → Prop} {R : β → Hp → Prop} {r : R3 α} {k : α → Lh → Out} (E : Env3 K ρ H σ Γ) (h : GHold K W is σ ρ H Q (r.out Γ k))
    (n : ∀ d L1 v H1 ρ1, Ext ρ H ρ1 H1 → rep ρ1 H1 d v → Ab K ρ1 H1 L1 → GHold K W is σ ρ1 H1 Q (k d L1) → R v H1) : Hold K W σ ρ H rep R r := by
  cases r with
  | val d L => exact fun v H' ρ' e r a => n d L v H' ρ' e r a (GHold.ext0 e h)
  | exn c L => exact fun H' ρ' e a => h σ H' ρ' e (E.mono e) a
  | stuck => exact h.elim
theorem Out.next {o : Out} {Q : L2.St → Hp → Prop} (h : SHold K W ρ H Dn o) (hn : Dn.nx = Q) (E : Env3 K ρ H σ Γ) (A : Ab K ρ H L) (e : o = .nx Γ L) : Q σ H := by
  subst e hn
  exact h σ H ρ (Ext.refl _ _) E A
end
section
variable {X : Cx} {W : WX} {pos : Pos} {a b : Expr} {fa fb : E3}
@[simp] def gN (i : Nat) (d : D) (Γ : G3) (L : Lh) : Out := .nx (Γ.set i (some d)) L
theorem g3_name (i : Nat) {x : Str} (hN : X.N.Nodup) (hi : X.N[i]? = some x := by rfl) (hx : Loc X.env.scope x := by first | exact Or.inl rfl | exact Or.inr rfl) (hf : X.fn x = true ∨ X.env.scope.names.lookup x = some .local := by first | exact .inl rfl | exact .inr rfl | assumption) : PG3 X W (.Name x pos) [i] (gN i) :=
  ⟨_, pg_name hN hi hx hf, fun σ H ρ Γ L Q d v E A r h => h _ H ρ ⟨by simp, fun j hj => by
    simp at hj
    rw [List.getElem?_set_ne (Ne.symm hj)]⟩ (Ext.refl _ _) (E.set r) A⟩
@[simp] def gNil3 (ds : List D) (Γ : G3) (L : Lh) : Out := match ds with
  | [] => .nx Γ L
  | _ => .stuck
@[simp] def gCons3 (g : Tg3) (gs : Tgs3) (ds : List D) (Γ : G3) (L : Lh) : Out := match ds with
  | [] => .stuck
  | d :: r => match g d Γ L with
    | .nx Γ1 L1 => gs r Γ1 L1
    | .exn c Γ1 L1 => .exn c Γ1 L1
    | _ => .stuck
theorem gs3_nil : PGs3 X W [] [] gNil3 := ⟨_, pgs_nil, fun σ H ρ Γ L Q ds vs E A r h => by
  unfold gNil3 at h
  split at h
  · exact ⟨r, h σ H ρ (Agree.refl _ _) (Ext.refl _ _) E A⟩
  · exact h.elim⟩
theorem gs3_cons {e : Expr} {es : List Expr} {g : Tg3} {gs : Tgs3} {is js : List Nat} (h1 : PG3 X W e is g) (h2 : PGs3 X W es js gs)
    (hs : (assignEach (e :: es) X.env).map (·.2) = assign e X.env :: (assignEach es X.env).map (·.2) := by rfl) : PGs3 X W (e :: es) (is ++ js) (gCons3 g gs) := by
  obtain ⟨t, p, q⟩ := h1
  obtain ⟨u, p2, q2⟩ := h2
  refine ⟨_, pgs_cons p p2 hs, fun σ H ρ Γ L Q ds vs E A r h => ?_⟩
  cases ds with
  | nil => exact h.elim
  | cons d ds =>
    obtain ⟨v, vs', rfl, r1, r2⟩ := r
    refine ⟨v, vs', rfl, ?_⟩
    refine q σ H ρ Γ L _ d v E A r1 ?_
    unfold gCons3 at h
    simp only at h
    cases hg : g d Γ L with
    | nx Γ1 L1 =>
      rw [hg] at h
      exact fun s' H' ρ' ag e1 E1 A1 => q2 s' H' ρ' Γ1 L1 Q ds vs' E1 A1 (Reps.mono e1 _ r2) (GHold.ext ag e1 h)
    | exn c Γ1 L1 => rw [hg] at h; exact h
    | ret _ _ => rw [hg] at h; exact h.elim
    | brk _ _ => rw [hg] at h; exact h.elim
    | ct _ _ => rw [hg] at h; exact h.elim
    | stuck => rw [hg] at h; exact h.elim
def gT (n : Nat) (gs : Tgs3) (d : D) (Γ : G3) (L : Lh) : Out := match d with
  | .tup xs => if xs.length = n then gs xs Γ L else .stuck
  | _ => .stuck
@[simp] theorem gT_tup {n : Nat} {gs : Tgs3} {xs : List D} {Γ : G3} {L : Lh} : gT n gs (.tup xs) Γ L = if xs.length = n then gs xs Γ L else .stuck := rfl
theorem g3_tup {es : List Expr} {k : Nat} {gs : Tgs3} {n : Nat} {is : List Nat} (hc : X.calm = true) (h : PGs3 X W es is gs)
    (hn : (assignEach es X.env).length = n := by rfl) (hst : (assignEach es X.env).findIdx? (·.1) = none := by rfl) : PG3 X W (.Tuple es k pos) is (gT n gs) := by
  obtain ⟨t, p, q⟩ := h
  refine ⟨_, pg_tup hc p hn hst, fun σ H ρ Γ L Q d v E A r h => ?_⟩
  unfold gT at h
  split at h
  · rename_i xs
    split at h
    · rename_i hl
      obtain ⟨a, vs, rfl, hs, hr⟩ := r
      exact ⟨a, vs, rfl, hs, by rw [Reps.length hr]; exact hl, q σ H ρ Γ L Q xs vs E A hr h⟩
    · exact h.elim
  · exact h.elim
def ixD (n : Nat) (i : Int) : Option Nat := ixN n i
@[simp] def gS (fo fi : E3) (d : D) (Γ : G3) (L : Lh) : Out := (fo Γ L).out Γ fun o L1 => (fi Γ L1).out Γ fun i L2 => match o, i with
  | .loc n, .int k => match L2[n]? with
    | some (.lst xs) => match ixN xs.length k with
      | some j => .nx Γ (L2.set n (.lst (xs.set j d)))
      | none => .stuck
    | _ => .stuck
  | _, _ => .stuck
theorem g3_sub {o i : Expr} {fo fi : E3} (ho : PE3 X W o fo) (hi : PE3 X W i fi)
    (ha : ∀ v, assign (.Subscript o i pos) X.env v = (do
      let ov ← holding [v] (eval o X.env)
      let iv ← holding [v, ov] (eval i X.env)
      standAt pos
      holding [v, ov, iv] (setItem ov iv v)
      release [v, ov, iv] []) := by intro _; rfl) : PG3 X W (.Subscript o i pos) [] (gS fo fi) := by
  obtain ⟨to, po, qo⟩ := ho
  obtain ⟨ti, pi, qi⟩ := hi
  refine ⟨_, pg_sub po pi set_list ha, fun σ H ρ Γ L Q d v E A r h => ?_⟩
  refine qo σ H ρ Γ L _ E A (gout E h fun x L1 vx H1 ρ1 e1 r1 A1 h1 => ?_)
  refine qi σ H1 ρ1 Γ L1 _ (E.mono e1) A1 (gout (E.mono e1) h1 fun y L2 vy H2 ρ2 e2 r2 A2 h2 => ?_)
  split at h2
  · rename_i n k
    split at h2
    · rename_i xs hL
      split at h2
      · rename_i j hj
        obtain ⟨a, vs, rfl, ha, hv, hr⟩ := A2.at hL (Rep.mono e2 _ r1)
        refine ⟨a, vs, k, j, rfl, r2, hv, by rw [Reps.length hr]; exact hj, ?_⟩
        have ex : Ext ρ2 H2 ρ2 (upd H2 a (.lst (vs.set j v))) := ext_set hv
        exact h2 σ _ ρ2 (Agree.refl _ _) ex (E.mono ((e1.trans e2).trans ex)) (A2.setl hL ha (Reps.set (Rep.mono (e1.trans e2) d r) j hr))
      · exact h2.elim
    · exact h2.elim
  · exact h2.elim
/-! ## statements -/
variable {st : Stmt} {rest : List Stmt} {t u : S3} {e : Expr} {f : E3}
@[simp] def sNext (Γ : G3) (L : Lh) : Out := .nx Γ L
@[simp] def sSeq (t u : S3) (Γ : G3) (L : Lh) : Out := match t Γ L with
  | .nx Γ1 L1 => u Γ1 L1
  | o => o
theorem ss3_nil : PSs3 X W [] sNext := ⟨_, pss_nil, fun σ H ρ Γ L Dn E A h => h σ H ρ (Ext.refl _ _) E A⟩
theorem ss3_cons (h1 : PS3 X W st t) (h2 : PSs3 X W rest u) : PSs3 X W (st :: rest) (sSeq t u) := by
  obtain ⟨t1, p1, q1⟩ := h1
  obtain ⟨t2, p2, q2⟩ := h2
  refine ⟨_, pss_cons p1 p2, fun σ H ρ Γ L Dn E A h => ?_⟩
  refine q1 σ H ρ Γ L _ E A ?_
  unfold sSeq at h
  cases ht : t Γ L with
  | nx Γ1 L1 => rw [ht] at h; exact fun s' H' ρ' e1 E1 A1 => q2 s' H' ρ' Γ1 L1 Dn E1 A1 (SHold.ext e1 h)
  | ret _ _ => rw [ht] at h; exact h
  | brk _ _ => rw [ht] at h; exact h
  | ct _ _ => rw [ht] at h; exact h
  | exn _ _ _ => rw [ht] at h; exact h
  | stuck => rw [ht] at h; exact h.elim
theorem ss3_one (h1 : PS3 X W st t) : PSs3 X W [st] t := by
  obtain ⟨t1, p1, q1⟩ := h1
  exact ⟨_, pss_one p1, q1⟩
theorem s3_pass : PS3 X W (.Pass pos) sNext := ⟨_, ps_pass, fun σ H ρ Γ L Dn E A h => h σ H ρ (Ext.refl _ _) E A⟩
@[simp] def sCont (Γ : G3) (L : Lh) : Out := .ct Γ L
theorem s3_cont : PS3 X W (.Continue pos) sCont := ⟨_, ps_continue, fun σ H ρ Γ L Dn E A h => h σ H ρ (Ext.refl _ _) E A⟩
@[simp] def sBrk (Γ : G3) (L : Lh) : Out := .brk Γ L
theorem s3_brk : PS3 X W (.Break pos) sBrk := ⟨_, ps_break, fun σ H ρ Γ L Dn E A h => h σ H ρ (Ext.refl _ _) E A⟩
theorem s3_doc {x j pos'} : PS3 X W (.Expr (.Constant (.str x) j pos) pos') sNext := ⟨_, ps_doc, fun σ H ρ Γ L Dn E A h => h σ H ρ (Ext.refl _ _) E A⟩
@[simp] def sDrop (f : E3) (Γ : G3) (L : Lh) : Out := (f Γ L).out Γ fun _ L1 => .nx Γ L1
theorem s3_expr (he : PE3 X W e f) (hs : swapsWith e none pos.line X.env = pure false := by rfl) : PS3 X W (.Expr e pos) (sDrop f) := by
  obtain ⟨te, p, q⟩ := he
  refine ⟨_, ps_expr p hs, fun σ H ρ Γ L Dn E A h => ?_⟩
  exact q σ H ρ Γ L _ E A (sout E h fun x L1 vx H1 ρ1 e1 r1 A1 h1 => h1 σ H1 ρ1 (Ext.refl _ _) (E.mono e1) A1)
@[simp] def sRet (f : E3) (Γ : G3) (L : Lh) : Out := (f Γ L).out Γ fun d L1 => .ret d L1
theorem s3_ret (he : PE3 X W e f) : PS3 X W (.Return (some e) pos) (sRet f) := by
  obtain ⟨te, p, q⟩ := he
  refine ⟨_, ps_ret p, fun σ H ρ Γ L Dn E A h => ?_⟩
  exact q σ H ρ Γ L _ E A (sout E h fun x L1 vx H1 ρ1 e1 r1 A1 h1 => h1 vx H1 ρ1 (Ext.refl _ _) r1 A1)
@[simp] def sRetN (Γ : G3) (L : Lh) : Out := .ret .non L
theorem s3_retN : PS3 X W (.Return none pos) sRetN := ⟨_, ps_retN, fun σ H ρ Γ L Dn E A h => h .non H ρ (Ext.refl _ _) rfl A⟩
@[simp] def sIf (c : T3) (t u : S3) (Γ : G3) (L : Lh) : Out := (c Γ L).out Γ fun b L1 => if b = true then t Γ L1 else u Γ L1
theorem s3_if {c : Expr} {x y : List Stmt} {tc : T3} (hc : PT3 X W c tc) (ha : PSs3 X W x t) (hb : PSs3 X W y u) : PS3 X W (.If c x y pos) (sIf tc t u) := by
  obtain ⟨te, p, q⟩ := hc
  obtain ⟨t1, p1, q1⟩ := ha
  obtain ⟨t2, p2, q2⟩ := hb
  refine ⟨_, ps_if p p1 p2, fun σ H ρ Γ L Dn E A h => ?_⟩
  refine q σ H ρ Γ L _ E A (sout E h fun x L1 vx H1 ρ1 e1 r1 A1 h1 => ?_)
  obtain rfl : x = vx := r1
  cases x with
  | true => exact q1 σ H1 ρ1 Γ L1 Dn (E.mono e1) A1 h1
  | false => exact q2 σ H1 ρ1 Γ L1 Dn (E.mono e1) A1 h1
@[simp] def sAsg (f : E3) (g : Tg3) (Γ : G3) (L : Lh) : Out := (f Γ L).out Γ fun d L1 => match g d Γ L1 with
  | .nx Γ1 L2 => .nx Γ1 L2
  | .exn c Γ1 L2 => .exn c Γ1 L2
  | _ => .stuck
theorem ghold_of {K : PySem.W.Frag} {σ : L2.St} {ρ : List Addr} {H : Hp} {Dn : Ends} {is : List Nat} {o : Out} (h : SHold K W ρ H Dn (match o with
  | .nx Γ1 L2 => .nx Γ1 L2
  | .exn c Γ1 L2 => .exn c Γ1 L2
  | _ => .stuck)) : GHold K W is σ ρ H Dn.nx o := by
  cases o with
  | nx Γ L => exact fun s' H' ρ' _ e1 E1 A1 => h s' H' ρ' e1 E1 A1
  | exn c Γ L => exact h
  | ret _ _ => exact h
  | brk _ _ => exact h
  | ct _ _ => exact h
  | stuck => exact h
theorem s3_asg {tg : Expr} {g : Tg3} {is : List Nat} (he : PE3 X W e f) (hg : PG3 X W tg is g) (hs : swapsWithSole [tg] e pos.line X.env = pure false := by rfl) (hw : swappedStores [tg] e X.env = pure none := by rfl)
    (h1 : (assignEach [tg] X.env).map (·.2) = [assign tg X.env] := by rfl) : PS3 X W (.Assign [tg] e pos) (sAsg f g) := by
  obtain ⟨te, p, q⟩ := he
  obtain ⟨tt, pt, qt⟩ := hg
  refine ⟨_, ps_asg p pt hs hw h1, fun σ H ρ Γ L Dn E A h => ?_⟩
  refine q σ H ρ Γ L _ E A (sout E h fun x L1 vx H1 ρ1 e1 r1 A1 h1 => ?_)
  exact qt σ H1 ρ1 Γ L1 _ x vx (E.mono e1) A1 r1 (ghold_of h1)
@[simp] def sSet (i : Nat) (f : E3) (Γ : G3) (L : Lh) : Out := (f Γ L).out Γ fun d L1 => .nx (Γ.set i (some d)) L1
theorem s3_set (i : Nat) {x : Str} {pos' : Pos} (he : PE3 X W e f) (hN : X.N.Nodup) (hi : X.N[i]? = some x := by rfl) (hx : Loc X.env.scope x := by first | exact Or.inl rfl | exact Or.inr rfl) (hs : swapsWith e (some (.Name x pos')) pos.line X.env = pure false := by rfl) (hf : X.fn x = true ∨ X.env.scope.names.lookup x = some .local := by first | exact .inl rfl | exact .inr rfl | assumption) :
    PS3 X W (.Assign [.Name x pos'] e pos) (sSet i f) := by
  obtain ⟨te, p, q⟩ := he
  refine ⟨_, ps_set hN hi hx p hs hf, fun σ H ρ Γ L Dn E A h => ?_⟩
  exact q σ H ρ Γ L _ E A (sout E h fun x L1 vx H1 ρ1 e1 r1 A1 h1 => h1 _ H1 ρ1 (Ext.refl _ _) ((E.mono e1).set r1) A1)
/-- a, b = x, y of two local names -/
@[simp] def sPar (i j : Nat) (fa fb : E3) (Γ : G3) (L : Lh) : Out := (fa Γ L).out Γ fun x L1 => (fb Γ L1).out Γ fun y L2 => .nx ((Γ.set i (some x)).set j (some y)) L2
theorem s3_par (i j : Nat) {x y : Str} {px py pt : Pos} {kt k2 pt2} (hc : X.calm = true) (ha : PE3 X W a fa) (hb : PE3 X W b fb) (hN : X.N.Nodup) (hi : X.N[i]? = some x := by rfl) (hj : X.N[j]? = some y := by rfl) (hij : i ≠ j := by decide)
    (hx : X.env.scope.names.lookup x = some .local := by rfl) (hy : X.env.scope.names.lookup y = some .local := by rfl) (hab : starEach [a, b] X.env = (false, eval a X.env) :: starEach [b] X.env := by rfl) (hbb : starEach [b] X.env = (false, eval b X.env) :: starEach [] X.env := by rfl)
    (hw : swappedStores [.Tuple [.Name x px, .Name y py] kt pt] (.Tuple [a, b] k2 pt2) X.env = pure (some [x, y]) := by rfl)
    (hs : swapsWithSole [.Tuple [.Name x px, .Name y py] kt pt] (.Tuple [a, b] k2 pt2) pos.line X.env = pure false := by rfl) :
    PS3 X W (.Assign [.Tuple [.Name x px, .Name y py] kt pt] (.Tuple [a, b] k2 pt2) pos) (sPar i j fa fb) := by
  obtain ⟨ta, p, q⟩ := ha
  obtain ⟨tb, p2, q2⟩ := hb
  refine ⟨_, ps_par hc hN hi hj hij hx hy (pa_cons p (pa_cons p2 pa_nil hbb) hab) hw hs, fun σ H ρ Γ L Dn E A h => ?_⟩
  refine q σ H ρ Γ L _ E A (sout E h fun x L1 vx H1 ρ1 e1 r1 A1 h1 => ?_)
  refine q2 σ H1 ρ1 Γ L1 _ (E.mono e1) A1 (sout (E.mono e1) h1 fun y L2 vy H2 ρ2 e2 r2 A2 h2 => ?_)
  exact ⟨vx, vy, rfl, h2 _ H2 ρ2 (Ext.refl _ _) (((E.mono (e1.trans e2)).set (Rep.mono e2 x r1)).set r2) A2⟩
/-- x op= e -/
@[simp] def sAug (i : Nat) (o : Op3) (f : E3) (Γ : G3) (L : Lh) : Out := match Γ[i]? with
  | some (some x) => (f Γ L).out Γ fun y L1 => (o x y L1).out Γ fun z L2 => .nx (Γ.set i (some z)) L2
  | _ => .stuck
theorem s3_aug (i : Nat) {x : Str} {op : Operator} {ti : TIp} {o : Op3} {pos' : Pos} (ho : PIp X op ti) (hr : OpOk X.K ti o) (he : PE3 X W e f) (hN : X.N.Nodup) (hi : X.N[i]? = some x := by rfl) (hx : Loc X.env.scope x := by first | exact Or.inl rfl | exact Or.inr rfl) (hf : X.fn x = true ∨ X.env.scope.names.lookup x = some .local := by first | exact .inl rfl | exact .inr rfl | assumption) :
    PS3 X W (.AugAssign (.Name x pos') op e pos) (sAug i o f) := by
  obtain ⟨te, p, q⟩ := he
  refine ⟨_, ps_aug hN hi hx p ho hf, fun σ H ρ Γ L Dn E A h => ?_⟩
  unfold sAug at h
  split at h
  · rename_i d hd
    obtain ⟨v, e1, r1⟩ := E.2 i d hd
    refine ⟨v, e1, ?_⟩
    refine q σ H ρ Γ L _ E A (sout E h fun x L1 vx H1 ρ1 e1 r2 A1 h1 => ?_)
    refine hr W σ ρ1 H1 L1 _ d x v vx A1 (Rep.mono e1 d r1) r2 (sout (E.mono e1) h1 fun z L2 vz H2 ρ2 e2 r3 A2 h2 => ?_)
    exact h2 _ H2 ρ2 (Ext.refl _ _) ((E.mono (e1.trans e2)).set r3) A2
  · exact h.elim
/-! ## while -/
def wStep (c : T3) (b k : S3) (Γ : G3) (L : Lh) : Out := (c Γ L).out Γ fun t L1 => if t = true then (match b Γ L1 with
      | .nx Γ2 L2 => k Γ2 L2
      | .ct Γ2 L2 => k Γ2 L2
      | .brk Γ2 L2 => .nx Γ2 L2
      | o => o) else .nx Γ L1
def wN : Nat → T3 → S3 → S3
  | 0, _, _ => fun _ _ => .stuck
  | n + 1, c, b => wStep c b (wN n c b)
noncomputable def sWhile (c : T3) (b : S3) (Γ : G3) (L : Lh) : Out := if h : ∃ n, wN n c b Γ L ≠ .stuck then wN (choose h) c b Γ L else .stuck
theorem wStep_congr {c : T3} {b k k' : S3} (hk : ∀ Γ L, k Γ L ≠ .stuck → k' Γ L = k Γ L) {Γ : G3} {L : Lh} (h : wStep c b k Γ L ≠ .stuck) : wStep c b k' Γ L = wStep c b k Γ L := by
  unfold wStep at h ⊢
  cases hc : c Γ L with
  | stuck => rfl
  | exn _ _ => rfl
  | val t L1 =>
    rw [hc] at h
    simp only [R3.out] at h ⊢
    cases t with
    | false => rfl
    | true =>
      simp only [if_true] at h ⊢
      cases hb : b Γ L1 with
      | nx Γ2 L2 => rw [hb] at h; exact hk Γ2 L2 h
      | ct Γ2 L2 => rw [hb] at h; exact hk Γ2 L2 h
      | brk _ _ => rfl
      | ret _ _ => rfl
      | exn _ _ _ => rfl
      | stuck => rfl
theorem wN_succ (c : T3) (b : S3) : ∀ (n : Nat) (Γ : G3) (L : Lh), wN n c b Γ L ≠ .stuck → wN (n + 1) c b Γ L = wN n c b Γ L
  | 0, Γ, L, h => absurd rfl h
  | n + 1, Γ, L, h => wStep_congr (k := wN n c b) (k' := wN (n + 1) c b) (fun Γ L => wN_succ c b n Γ L) h
theorem wN_le {c : T3} {b : S3} {n m : Nat} {Γ : G3} {L : Lh} (h : wN n c b Γ L ≠ .stuck) (hm : n ≤ m) : wN m c b Γ L = wN n c b Γ L := by
  induction hm with
  | refl => rfl
  | step _ ih => rw [wN_succ c b _ Γ L (by rw [ih]; exact h)]; exact ih
theorem sWhile_eq {c : T3} {b : S3} {Γ : G3} {L : Lh} {o : Out} (n : Nat) (h : wN n c b Γ L = o) (ho : o ≠ .stuck) : sWhile c b Γ L = o := by
  have hn : wN n c b Γ L ≠ .stuck := by rw [h]; exact ho
  have hx : ∃ n, wN n c b Γ L ≠ .stuck := ⟨n, hn⟩
  unfold sWhile
  rw [dif_pos hx]
  have h2 := choose_spec hx
  rcases Nat.le_total n (choose hx) with q | q
  · rw [wN_le hn q]; exact h
  · rw [← wN_le h2 q]; exact h
theorem s3_while {c : Expr} {body : List Stmt} {tc : T3} {b : S3} (hp : PassesOwn (model X.prog X.w) X.A X.env X.xe) (hc : PT3 X W c tc) (hb : PSs3 X W body b) : PS3 X W (.While c body [] pos) (sWhile tc b) := by
  obtain ⟨te, p, q⟩ := hc
  obtain ⟨t1, p1, q1⟩ := hb
  refine ⟨_, ps_while hp p p1, fun σ H ρ Γ L Dn E A h => ?_⟩
  unfold sWhile at h
  split at h
  · rename_i hx
    refine ⟨fun m σ H => ∃ ρ Γ L, Env3 X.K ρ H σ Γ ∧ Ab X.K ρ H L ∧ SHold X.K W ρ H Dn (wN m tc b Γ L), ⟨_, ρ, Γ, L, E, A, h⟩, ?_⟩
    rintro m σ H ⟨ρ, Γ, L, E, A, h⟩
    cases m with
    | zero => exact h.elim
    | succ m =>
      refine q σ H ρ Γ L _ E A (sout E h fun x L1 vx H1 ρ1 e1 r1 A1 h1 => ?_)
      obtain rfl : x = vx := r1
      cases x with
      | false => exact h1 σ H1 ρ1 (Ext.refl _ _) (E.mono e1) A1
      | true =>
        rw [if_pos rfl] at h1 ⊢
        refine ⟨fun σ' H' => ∃ ρ Γ L, Env3 X.K ρ H' σ' Γ ∧ Ab X.K ρ H' L ∧ SHold X.K W ρ H' Dn (wN m tc b Γ L), fun σ' H' h => ⟨m, Nat.lt_succ_self m, h⟩, ?_⟩
        refine q1 σ H1 ρ1 Γ L1 _ (E.mono e1) A1 ?_
        cases hb : b Γ L1 with
        | nx Γ2 L2 => rw [hb] at h1; exact fun s' H' ρ' e2 E2 A2 => ⟨ρ', Γ2, L2, E2, A2, SHold.ext e2 h1⟩
        | ct Γ2 L2 => rw [hb] at h1; exact fun s' H' ρ' e2 E2 A2 => ⟨ρ', Γ2, L2, E2, A2, SHold.ext e2 h1⟩
        | brk Γ2 L2 => rw [hb] at h1; exact h1
        | ret _ _ => rw [hb] at h1; exact h1
        | exn _ _ _ => rw [hb] at h1; exact h1
        | stuck => rw [hb] at h1; exact h1.elim
  · exact h.elim
end
/-! ## what is walked -/
structure It3 where
  xs : List D
  chk : Lh → Prop
structure ItOk (K : PySem.W.Frag) (ρ1 : List Addr) (H1 : Hp) (J : L2.It) (it : It3) : Prop where
  ok : ∃ (Gd : Hp → Prop) (Y : Nat → Hp → V → Hp → Prop), Walk J it.xs.length Gd Y ∧
    (∀ ρ' H' L', Ext ρ1 H1 ρ' H' → Ab K ρ' H' L' → it.chk L' → Gd H') ∧
    (∀ i ρ' H' L' x H'', i < it.xs.length → Ext ρ1 H1 ρ' H' → Ab K ρ' H' L' → it.chk L' → Y i H' x H'' → ∃ d, it.xs[i]? = some d ∧ Ext ρ' H' ρ' H'' ∧ Rep K ρ' H'' d x ∧ Ab K ρ' H'' L')
abbrev I3 := G3 → Lh → R3 It3
def IHold (K : PySem.W.Frag) (W : WX) (σ : L2.St) (ρ : List Addr) (H : Hp) (R : L2.It → Hp → Prop) : R3 It3 → Prop
  | .val it L => ∀ J H' ρ', Ext ρ H ρ' H' → ItOk K ρ' H' J it → Ab K ρ' H' L → R J H'
  | .exn c L => ∀ H' ρ', Ext ρ H ρ' H' → Ab K ρ' H' L → W (.ref (He.ga K c)) none σ H'
  | .stuck => False
def PI3 (X : Cx) (W : WX) (tg iter : Expr) (f : I3) : Prop := ∃ wi, PI X tg iter wi ∧ ∀ σ H ρ Γ L R, Env3 X.K ρ H σ Γ → Ab X.K ρ H L → IHold X.K W σ ρ H R (f Γ L) → wi σ H R
def RepI (K : PySem.W.Frag) (ρ : List Addr) (H : Hp) (it : It3) (J : L2.It) : Prop := ItOk K ρ H J it
theorem ihold_eq {K : PySem.W.Frag} {W : WX} {σ : L2.St} {ρ : List Addr} {H : Hp} {R : L2.It → Hp → Prop} {r : R3 It3} (h : IHold K W σ ρ H R r) : Hold K W σ ρ H (RepI K) R r := by
  cases r with
  | val it L => exact h
  | exn c L => exact h
  | stuck => exact h
theorem ihold_of {K : PySem.W.Frag} {W : WX} {σ : L2.St} {ρ : List Addr} {H : Hp} {R : L2.It → Hp → Prop} {r : R3 It3} (h : Hold K W σ ρ H (RepI K) R r) : IHold K W σ ρ H R r := by
  cases r with
  | val it L => exact h
  | exn c L => exact h
  | stuck => exact h
/-! ## for -/
noncomputable def forL (chk : Lh → Prop) (g : Tg3) (b : S3) : List D → S3
  | [], Γ, L => if chk L then .nx Γ L else .stuck
  | x :: r, Γ, L => if chk L then (match g x Γ L with
      | .nx Γ1 L1 => (match b Γ1 L1 with
        | .nx Γ2 L2 => forL chk g b r Γ2 L2
        | .ct Γ2 L2 => forL chk g b r Γ2 L2
        | .brk Γ2 L2 => .nx Γ2 L2
        | o => o)
      | .exn c Γ1 L1 => .exn c Γ1 L1
      | _ => .stuck) else .stuck
@[simp] noncomputable def sFor (f : I3) (g : Tg3) (b : S3) (Γ : G3) (L : Lh) : Out := (f Γ L).out Γ fun it L1 => forL it.chk g b it.xs Γ L1
section
variable {X : Cx} {W : WX} {pos : Pos}
theorem s3_for {tg iter : Expr} {body : List Stmt} {f : I3} {g : Tg3} {is : List Nat} {b : S3} (hp : PassesOwn (model X.prog X.w) X.A X.env X.xe) (hc : X.calm = true) (hi : PI3 X W tg iter f) (hg : PG3 X W tg is g) (hb : PSs3 X W body b)
    (hs : ∀ x, foldedSetIterable iter X.env x = pure x := by intro _; rfl) : PS3 X W (.For tg iter body [] pos) (sFor f g b) := by
  obtain ⟨wi, pi, qi⟩ := hi
  obtain ⟨tt, pg, qg⟩ := hg
  obtain ⟨t1, p1, q1⟩ := hb
  refine ⟨_, ps_for hp hc pi pg p1 hs, fun σ H ρ Γ L Dn E A h => ?_⟩
  refine qi σ H ρ Γ L _ E A (ihold_of (sout E h fun it L1 J H1 ρ1 e1 r1 A1 h1 => ?_))
  obtain ⟨Gd, Y, w, hG, hY⟩ := r1.ok
  have stand : ∀ (r : List D) (Γ : G3) (L : Lh) (ρ : List Addr) (H : Hp), SHold X.K W ρ H Dn (forL it.chk g b r Γ L) → it.chk L := fun r Γ L ρ H h => by
    cases r with
    | nil =>
      rw [forL] at h
      by_cases hk : it.chk L
      · exact hk
      · rw [if_neg hk] at h; exact h.elim
    | cons x r =>
      rw [forL] at h
      by_cases hk : it.chk L
      · exact hk
      · rw [if_neg hk] at h; exact h.elim
  refine for_it w (fun i σ H => ∃ ρ Γ L, Env3 X.K ρ H σ Γ ∧ Ab X.K ρ H L ∧ Ext ρ1 H1 ρ H ∧ SHold X.K W ρ H Dn (forL it.chk g b (it.xs.drop i) Γ L)) ⟨ρ1, Γ, L1, E.mono e1, A1, Ext.refl _ _, h1⟩ ?_ ?_ ?_
  · rintro i σ H hi ⟨ρ, Γ, L, E, A, ex, h⟩
    exact hG ρ H L ex A (stand _ _ _ _ _ h)
  · rintro i x σ H H' hi ⟨ρ, Γ, L, E, A, ex, h⟩ hy
    have hk := stand _ _ _ _ _ h
    obtain ⟨d, hd, ex2, rd, A2⟩ := hY i ρ H L x H' hi ex A hk hy
    have ed : it.xs.drop i = d :: it.xs.drop (i + 1) := by
      obtain ⟨l, e⟩ := List.getElem?_eq_some_iff.mp hd
      rw [← e]; exact List.drop_eq_getElem_cons l
    rw [ed, forL, if_pos hk] at h
    refine qg σ H' ρ Γ L _ d x (E.mono ex2) A2 rd ?_
    cases hg : g d Γ L with
    | nx Γ1 L1' =>
      rw [hg] at h
      intro s' H2 ρ2 _ e2 E2 A2'
      refine q1 s' H2 ρ2 Γ1 L1' _ E2 A2' ?_
      simp only at h
      have nx : ∀ (Γ2 : G3) (L2 : Lh), SHold X.K W ρ H Dn (forL it.chk g b (it.xs.drop (i + 1)) Γ2 L2) → ∀ σ' H'' ρ', Ext ρ2 H2 ρ' H'' → Env3 X.K ρ' H'' σ' Γ2 → Ab X.K ρ' H'' L2 →
          ∃ ρ Γ L, Env3 X.K ρ H'' σ' Γ ∧ Ab X.K ρ H'' L ∧ Ext ρ1 H1 ρ H'' ∧ SHold X.K W ρ H'' Dn (forL it.chk g b (it.xs.drop (i + 1)) Γ L) :=
        fun Γ2 L2 h σ' H'' ρ' e3 E3 A3 => ⟨ρ', Γ2, L2, E3, A3, ((ex.trans ex2).trans e2).trans e3, SHold.ext ((ex2.trans e2).trans e3) h⟩
      cases hb : b Γ1 L1' with
      | nx Γ2 L2 => rw [hb] at h; exact nx Γ2 L2 h
      | ct Γ2 L2 => rw [hb] at h; exact nx Γ2 L2 h
      | brk Γ2 L2 => rw [hb] at h; exact SHold.ext (r := .nx Γ2 L2) (ex2.trans e2) h
      | ret d' L2 => rw [hb] at h; exact SHold.ext (r := .ret d' L2) (ex2.trans e2) h
      | exn c Γ2 L2 => rw [hb] at h; exact SHold.ext (r := .exn c Γ2 L2) (ex2.trans e2) h
      | stuck => rw [hb] at h; exact h.elim
    | exn c Γ1 L1' => rw [hg] at h; exact SHold.ext (r := .exn c Γ1 L1') ex2 h
    | ret _ _ => rw [hg] at h; exact h.elim
    | brk _ _ => rw [hg] at h; exact h.elim
    | ct _ _ => rw [hg] at h; exact h.elim
    | stuck => rw [hg] at h; exact h.elim
  · rintro σ H ⟨ρ, Γ, L, E, A, ex, h⟩
    rw [List.drop_length, forL] at h
    split at h
    · exact h σ H ρ (Ext.refl _ _) E A
    · exact h.elim
/-! ## comprehensions -/
@[simp] def wipe3 (Γ : G3) : List Nat → G3
  | [] => Γ
  | v :: vs => (wipe3 Γ vs).set v none
theorem Env3.wipe {K : PySem.W.Frag} {ρ : List Addr} {H : Hp} {σ : L2.St} {Γ : G3} (E : Env3 K ρ H σ Γ) : ∀ vs, Env3 K ρ H (wipe σ vs) (wipe3 Γ vs)
  | [] => E
  | v :: vs => by
    have ih := Env3.wipe E vs
    refine ⟨by unfold L2.wipe wipe3; simp [ih.1], fun i d q => ?_⟩
    unfold wipe3 at q
    by_cases hi : v = i
    · subst hi
      by_cases hv : v < (wipe3 Γ vs).length
      · rw [List.getElem?_set_self hv] at q; cases q
      · rw [List.getElem?_eq_none (by simpa using hv)] at q; cases q
    · rw [List.getElem?_set_ne hi] at q
      obtain ⟨u, a, b⟩ := ih.2 i d q
      exact ⟨u, by unfold L2.wipe; rw [List.getElem?_set_ne hi]; exact a, b⟩
theorem wipe_get {σ : L2.St} : ∀ {vs : List Nat} {i : Nat}, i < σ.length → i ∈ vs → (L2.wipe σ vs)[i]? = some none
  | v :: vs, i, hl, h => by
    unfold L2.wipe
    by_cases hi : v = i
    · subst hi
      rw [List.getElem?_set_self (by rw [L2.wipe_length]; exact hl)]
    · rw [List.getElem?_set_ne hi]
      exact wipe_get hl (by
        rcases List.mem_cons.mp h with z | z
        · exact absurd z.symm hi
        · exact z)
theorem wipe_agree {is vs : List Nat} {σ σ2 : L2.St} (a : Agree is σ σ2) (h : ∀ i ∈ is, i ∈ vs) : L2.wipe σ2 vs = L2.wipe σ vs := by
  apply List.ext_getElem?
  intro i
  by_cases hi : i ∈ vs
  · by_cases hl : i < σ.length
    · rw [wipe_get hl hi, wipe_get (by rw [a.1]; exact hl) hi]
    · rw [List.getElem?_eq_none (by rw [L2.wipe_length, a.1]; omega), List.getElem?_eq_none (by rw [L2.wipe_length]; omega)]
  · rw [L2.wipe_out hi, L2.wipe_out hi]
    exact a.2 i fun z => hi (h i z)
theorem wipe_wipe (σ : L2.St) (vs : List Nat) : L2.wipe (L2.wipe σ vs) vs = L2.wipe σ vs :=
  wipe_agree (is := vs) ⟨L2.wipe_length _ _, fun i h => L2.wipe_out h⟩ fun _ h => h
noncomputable def lcL (chk : Lh → Prop) (g : Tg3) (t : T3) (e : E3) (Γ0 : G3) (n : Nat) : List D → Lh → R3 D
  | [], L => if chk L then .val (.loc n) L else .stuck
  | x :: r, L => if chk L then (match g x Γ0 L with
      | .nx Γ1 L1 => (match t Γ1 L1 with
        | .val true L2 => (match e Γ1 L2 with
          | .val y L3 => (match L3[n]? with
            | some (.lst acc) => if acc.length ≤ 100000 then lcL chk g t e Γ0 n r (L3.set n (.lst (acc ++ [y]))) else .stuck
            | _ => .stuck)
          | _ => .stuck)
        | .val false L2 => lcL chk g t e Γ0 n r L2
        | _ => .stuck)
      | _ => .stuck) else .stuck
@[simp] noncomputable def eLc (f : I3) (g : Tg3) (t : T3) (e : E3) (own : List Nat) (Γ : G3) (L : Lh) : R3 D := (f Γ L).bind fun it L1 => lcL it.chk g t e (wipe3 Γ own) L1.length it.xs (L1 ++ [.lst []])
/-- a test that is not there -/
@[simp] def tTrue (_ : G3) (L : Lh) : R3 Bool := .val true L
def PTs3 (X : Cx) (W : WX) (es : List Expr) (f : T3) : Prop := ∃ te, PTs X es te ∧ ∀ σ H ρ Γ L Q, Env3 X.K ρ H σ Γ → Ab X.K ρ H L → Hold X.K W σ ρ H RepB Q (f Γ L) → te σ H Q
theorem ts3_nil : PTs3 X W [] tTrue := ⟨_, pts_nil, fun σ H ρ Γ L Q E A h => h.mk A rfl⟩
theorem ts3_one {c : Expr} {t : T3} (h : PT3 X W c t) : PTs3 X W [c] t := by
  obtain ⟨te, p, q⟩ := h
  exact ⟨_, pts_one p, q⟩
abbrev W0 : WX := fun _ _ _ _ => False
theorem lc_hold {wi : TI} {g : TG} {tt : TT} {te : TE} {f : I3} {g3 : Tg3} {t3 : T3} {e3 : E3} {is own : List Nat} {Xg Xt Xe : Cx} (hKg : Xg.K = X.K) (hKt : Xt.K = X.K) (hKe : Xe.K = X.K)
    (qi : ∀ σ H ρ Γ L R, Env3 X.K ρ H σ Γ → Ab X.K ρ H L → IHold X.K W σ ρ H R (f Γ L) → wi σ H R)
    (qg : ∀ σ H ρ Γ L Q d v, Env3 Xg.K ρ H σ Γ → Ab Xg.K ρ H L → Rep Xg.K ρ H d v → GHold Xg.K W0 is σ ρ H Q (g3 d Γ L) → g v σ H Q)
    (qt : ∀ σ H ρ Γ L Q, Env3 Xt.K ρ H σ Γ → Ab Xt.K ρ H L → Hold Xt.K W0 σ ρ H RepB Q (t3 Γ L) → tt σ H Q)
    (qe : ∀ σ H ρ Γ L Q, Env3 Xe.K ρ H σ Γ → Ab Xe.K ρ H L → Hold Xe.K W0 σ ρ H (Rep Xe.K) Q (e3 Γ L) → te σ H Q) (hio : ∀ i ∈ is, i ∈ own) :
    ∀ σ H ρ Γ L Q, Env3 X.K ρ H σ Γ → Ab X.K ρ H L → Hold X.K W σ ρ H (Rep X.K) Q (eLc f g3 t3 e3 own Γ L) → tLc wi g tt te own σ H Q := by
  rw [hKg] at qg; rw [hKt] at qt; rw [hKe] at qe
  intro σ H ρ Γ L Q E A h
  refine qi σ H ρ Γ L _ E A (ihold_of (hbind h fun it L1 J H1 ρ1 e1 r1 A1 h1 => ?_))
  obtain ⟨Gd, Y, w, hG, hY⟩ := r1.ok
  intro Dd hD
  have A2 : Ab X.K (ρ1 ++ [Dd]) (upd H1 Dd (.lst [])) (L1 ++ [.lst []]) := A1.alloc hD rfl
  have e2 : Ext ρ1 H1 (ρ1 ++ [Dd]) (upd H1 Dd (.lst [])) := (ext_new hD).trans (ext_more _ _ _)
  have eD : (ρ1 ++ [Dd])[L1.length]? = some Dd := by rw [← A1.len, List.getElem?_append_right (Nat.le_refl _), Nat.sub_self]; rfl
  have E2 : Env3 X.K (ρ1 ++ [Dd]) (upd H1 Dd (.lst [])) (wipe σ own) (wipe3 Γ own) := Env3.wipe (E.mono (e1.trans e2)) own
  have stand : ∀ (r : List D) (L : Lh) (ρ : List Addr) (H : Hp), Hold X.K W σ ρ H (Rep X.K) Q (lcL it.chk g3 t3 e3 (wipe3 Γ own) L1.length r L) → it.chk L := fun r L ρ H h => by
    cases r with
    | nil =>
      rw [lcL] at h
      by_cases hk : it.chk L
      · exact hk
      · rw [if_neg hk] at h; exact h.elim
    | cons x r =>
      rw [lcL] at h
      by_cases hk : it.chk L
      · exact hk
      · rw [if_neg hk] at h; exact h.elim
  refine lc_it w (fun i H => ∃ ρ L, Ab X.K ρ H L ∧ Ext (ρ1 ++ [Dd]) (upd H1 Dd (.lst [])) ρ H ∧ Hold X.K W σ ρ H (Rep X.K) Q (lcL it.chk g3 t3 e3 (wipe3 Γ own) L1.length (it.xs.drop i) L)) ⟨_, _, A2, Ext.refl _ _, Hold.ext e2 h1⟩ ?_ ?_ ?_
  · rintro i H hi ⟨ρ, L, A, ex, h⟩
    exact hG ρ H L (e2.trans ex) A (stand _ _ _ _ h)
  · rintro i x H H' hi ⟨ρ, L, A, ex, h⟩ hy
    have hk := stand _ _ _ _ h
    obtain ⟨d, hd, ex2, rd, A3⟩ := hY i ρ H L x H' hi (e2.trans ex) A hk hy
    have ed : it.xs.drop i = d :: it.xs.drop (i + 1) := by
      obtain ⟨l, e⟩ := List.getElem?_eq_some_iff.mp hd
      rw [← e]; exact List.drop_eq_getElem_cons l
    rw [ed, lcL, if_pos hk] at h
    refine qg _ H' ρ (wipe3 Γ own) L _ d x (E2.mono (ex.trans ex2)) A3 rd ?_
    cases hg : g3 d (wipe3 Γ own) L with
    | nx Γ1 L2 =>
      rw [hg] at h
      intro s' H2 ρ2 ag e3' E3 A4
      refine ⟨(wipe_agree ag hio).trans (wipe_wipe σ own), ?_⟩
      refine qt s' H2 ρ2 Γ1 L2 _ E3 A4 ?_
      simp only at h
      cases ht : t3 Γ1 L2 with
      | val bt L3 =>
        rw [ht] at h
        intro bv H3 ρ3 e4 rb A5
        obtain rfl : bt = bv := rb
        cases bt with
        | true =>
          rw [if_pos rfl]
          refine qe s' H3 ρ3 Γ1 L3 _ (E3.mono e4) A5 ?_
          simp only at h
          cases he : e3 Γ1 L3 with
          | val y L4 =>
            rw [he] at h
            intro vy H4 ρ4 e5 ry A6
            simp only at h
            split at h
            · rename_i acc hacc
              split at h
              · rename_i hlen
                have ext4 : Ext (ρ1 ++ [Dd]) (upd H1 Dd (.lst [])) ρ4 H4 := (((ex.trans ex2).trans e3').trans e4).trans e5
                obtain ⟨a', vs, hv, ha', hHv, hr⟩ := A6.at hacc (v := .ref Dd) ⟨Dd, rfl, ext4.at eD⟩
                cases hv
                refine ⟨vs, hHv, by rw [Reps.length hr]; exact Nat.lt_of_le_of_lt hlen (by decide), ρ4, _, A6.setl hacc ha' (Reps.append hr (Reps.one ry)), ext4.trans (ext_set hHv), ?_⟩
                exact Hold.ext ((((ex2.trans e3').trans e4).trans e5).trans (ext_set hHv)) h
              · exact h.elim
            · exact h.elim
          | exn _ _ => rw [he] at h; exact h.elim
          | stuck => rw [he] at h; exact h.elim
        | false =>
          rw [if_neg Bool.false_ne_true]
          exact ⟨ρ3, L3, A5, ((ex.trans ex2).trans e3').trans e4, Hold.ext ((ex2.trans e3').trans e4) h⟩
      | exn _ _ => rw [ht] at h; exact h.elim
      | stuck => rw [ht] at h; exact h.elim
    | exn c Γ1 L1' => rw [hg] at h; exact h.elim
    | ret _ _ => rw [hg] at h; exact h.elim
    | brk _ _ => rw [hg] at h; exact h.elim
    | ct _ _ => rw [hg] at h; exact h.elim
    | stuck => rw [hg] at h; exact h.elim
  · rintro H ⟨ρ, L, A, ex, h⟩
    rw [List.drop_length, lcL] at h
    split at h
    · exact h.mk A ⟨Dd, rfl, ex.at eD⟩
    · exact h.elim
def canE (K : PySem.W.Frag) (W : WX) (f : E3) : TE := fun σ H Q => ∃ ρ Γ L, Env3 K ρ H σ Γ ∧ Ab K ρ H L ∧ Hold K W σ ρ H (Rep K) Q (f Γ L)
def canT (K : PySem.W.Frag) (W : WX) (f : T3) : TT := fun σ H Q => ∃ ρ Γ L, Env3 K ρ H σ Γ ∧ Ab K ρ H L ∧ Hold K W σ ρ H RepB Q (f Γ L)
def canG (K : PySem.W.Frag) (W : WX) (is : List Nat) (g : Tg3) : TG := fun v σ H Q => ∃ ρ Γ L d, Env3 K ρ H σ Γ ∧ Ab K ρ H L ∧ Rep K ρ H d v ∧ GHold K W is σ ρ H Q (g d Γ L)
theorem PE3.can {e : Expr} {f : E3} (h : PE3 X W e f) : PE X e (canE X.K W f) := by
  obtain ⟨te, p, q⟩ := h
  exact ⟨fun pins s σ H Q I ⟨ρ, Γ, L, E, A, h⟩ => p.run pins s σ H Q I (q σ H ρ Γ L Q E A h)⟩
theorem PTs3.can {e : List Expr} {f : T3} (h : PTs3 X W e f) : PTs X e (canT X.K W f) := by
  obtain ⟨te, p, q⟩ := h
  exact ⟨fun pins s σ H Q I ⟨ρ, Γ, L, E, A, h⟩ => p.run pins s σ H Q I (q σ H ρ Γ L Q E A h)⟩
theorem PG3.can {e : Expr} {is : List Nat} {f : Tg3} (h : PG3 X W e is f) : PG X e (canG X.K W is f) := by
  obtain ⟨te, p, q⟩ := h
  exact ⟨fun pins s σ H v u Q I r ⟨ρ, Γ, L, d, E, A, rd, h⟩ => p.run pins s σ H v u Q I r (q σ H ρ Γ L Q d v E A rd h)⟩
theorem e3_lc {elt tg iter : Expr} {ifs : List Expr} {scope : Scope} {own : List (Str × Nat)} {f : I3} {g : Tg3} {is : List Nat} {t : T3} {e : E3} (hc : X.calm = true) (hN : X.N.Nodup) (hi : PI3 X W tg iter f) (ok : blkC X.N X.env.scope scope own = true)
    (hg : ∀ (s : Shared) (H : Hp) (C : Addr) (cl : List (Str × Addr)) (fp : List Addr), PG3 (X.blk s H scope (compEnvC scope cl C X.env) fp) W0 tg is g) (ht : ∀ (s : Shared) (H : Hp) (C : Addr) (cl : List (Str × Addr)) (fp : List Addr), PTs3 (X.blk s H scope (compEnvC scope cl C X.env) fp) W0 ifs t)
    (he : ∀ (s : Shared) (H : Hp) (C : Addr) (cl : List (Str × Addr)) (fp : List Addr), PE3 (X.blk s H scope (compEnvC scope cl C X.env) fp) W0 elt e) (hio : (is.all fun i => (own.map (·.2)).contains i) = true := by rfl) (hs : ∀ x, foldedSetIterable iter X.env x = pure x := by intro _; rfl) :
    PE3 X W (.ListComp elt [⟨tg, iter, ifs, 0⟩] scope pos) (eLc f g t e (own.map (·.2))) := by
  obtain ⟨wi, pi, qi⟩ := hi
  have hio' : ∀ i ∈ is, i ∈ own.map (·.2) := fun i hi => by
    have := List.all_eq_true.mp hio i hi
    simpa using this
  refine ⟨_, pe_lc (g := canG X.K W0 is g) (tt := canT X.K W0 t) (te := canE X.K W0 e) hc hN pi (blkOk_by ok) (fun s H C cl fp => (hg s H C cl fp).can) (fun s H C cl fp => (ht s H C cl fp).can) (fun s H C cl fp => (he s H C cl fp).can) hs, ?_⟩
  exact lc_hold (Xg := X) (Xt := X) (Xe := X) rfl rfl rfl qi (fun σ H ρ Γ L Q d v E A r h => ⟨ρ, Γ, L, d, E, A, r, h⟩) (fun σ H ρ Γ L Q E A h => ⟨ρ, Γ, L, E, A, h⟩) (fun σ H ρ Γ L Q E A h => ⟨ρ, Γ, L, E, A, h⟩) hio'
theorem s3_setLc (i : Nat) {y : Str} {py : Pos} {elt tg iter : Expr} {ifs : List Expr} {scope : Scope} {own : List (Str × Nat)} {spos : Pos} {f : I3} {g : Tg3} {is : List Nat} {t : T3} {e : E3} (hc : X.calm = true) (hN : X.N.Nodup) (hi : PI3 X W tg iter f) (ok : blkC X.N X.env.scope scope own = true)
    (hg : ∀ (s : Shared) (H : Hp) (C : Addr) (cl : List (Str × Addr)) (fp : List Addr), PG3 (X.blk s H scope (compEnvC scope cl C X.env) fp) W0 tg is g) (ht : ∀ (s : Shared) (H : Hp) (C : Addr) (cl : List (Str × Addr)) (fp : List Addr), PTs3 (X.blk s H scope (compEnvC scope cl C X.env) fp) W0 ifs t)
    (he : ∀ (s : Shared) (H : Hp) (C : Addr) (cl : List (Str × Addr)) (fp : List Addr), PE3 (X.blk s H scope (compEnvC scope cl C X.env) fp) W0 elt e) (hyl : X.env.scope.names.lookup y = some .local := by rfl) (hk : X.env.scope.kind = .function := by rfl) (hy : X.N[i]? = some y := by rfl)
    (hl : (py.line == pos.line) = true := by rfl) (ha : (scope.names.any fun (n, k) => n == y && (k == .local || k == .cell)) = false := by decide +kernel) (hio : (is.all fun i => (own.map (·.2)).contains i) = true := by rfl) (hs : ∀ x, foldedSetIterable iter X.env x = pure x := by intro _; rfl) :
    PS3 X W (.Assign [.Name y py] (.ListComp elt [⟨tg, iter, ifs, 0⟩] scope pos) spos) (sSet i (eLc f g t e (own.map (·.2)))) := by
  obtain ⟨wi, pi, qi⟩ := hi
  have hio' : ∀ i ∈ is, i ∈ own.map (·.2) := fun i hi => by
    have := List.all_eq_true.mp hio i hi
    simpa using this
  refine ⟨_, ps_setLc (g := canG X.K W0 is g) (tt := canT X.K W0 t) (te := canE X.K W0 e) hc hN hy hyl (sw_true hk hyl hl ha) pi (blkOk_by ok) (fun s H C cl fp => (hg s H C cl fp).can) (fun s H C cl fp => (ht s H C cl fp).can) (fun s H C cl fp => (he s H C cl fp).can) hs, fun σ H ρ Γ L Dn E A h => ?_⟩
  refine lc_hold (Xg := X) (Xt := X) (Xe := X) rfl rfl rfl qi (fun σ H ρ Γ L Q d v E A r h => ⟨ρ, Γ, L, d, E, A, r, h⟩) (fun σ H ρ Γ L Q E A h => ⟨ρ, Γ, L, E, A, h⟩) (fun σ H ρ Γ L Q E A h => ⟨ρ, Γ, L, E, A, h⟩) hio' σ H ρ Γ L _ E A ?_
  exact sout E h fun x L1 vx H1 ρ1 e1 r1 A1 h1 => h1 _ H1 ρ1 (Ext.refl _ _) ((E.mono e1).set r1) A1
/-! ## calls, promises -/
/-- a def's promise by its level-3 function -/
def emb (K : PySem.W.Frag) (f : Fn3) : Sp := fun vs H Q E => ∃ ds L ρ, Reps K ρ H ds vs ∧ Ab K ρ H L ∧ Hold K (fun c dd _ H => E c dd H) [] ρ H (Rep K) Q (f ds L)
theorem hold_W {α β : Type} {K : PySem.W.Frag} {W W' : WX} {σ σ' : L2.St} {ρ : List Addr} {H : Hp} {rep : List Addr → Hp → α → β → Prop} {Q : β → Hp → Prop} {r : R3 α} (hw : ∀ c dd H, W c dd σ H → W' c dd σ' H) (h : Hold K W σ ρ H rep Q r) : Hold K W' σ' ρ H rep Q r := by
  cases r with
  | val d L => exact h
  | exn c L => exact fun H' ρ' e a => hw _ _ _ (h H' ρ' e a)
  | stuck => exact h
theorem e3_call {e : Expr} {es : List Expr} {x : Str} {p : Pos} {k : Nat} {f : Addr} {fd : FuncData} {ps : List Str} {fn : Fn3} {g : A3} (F : FnOk X.prog X.w X.K X.mg X.base (L2.CX X.prog X.w) k f fd ps (emb X.K fn)) (hr : Room k X.A) (hm : X.mg x = some (.ref f)) (hk : PySem.W.keepIn X.K (.ref f) = true) (hb : Binds X.K fd ps [])
    (tk : Takes X W) (ha : PA3 X W (e :: es) g) (hg : Gl X x := by rfl) (hdb : (x == ("__debug__" : Str)) = false := by decide) (hs : starEach (e :: es) X.env = (false, eval e X.env) :: starEach es X.env := by rfl) (hpl : (backTo pos (starEach es X.env)).any (·.1) = false := by rfl) :
    PE3 X W (.Call (.Name x p) (e :: es) [] pos) (eCall fn g) := by
  obtain ⟨ta, pa, qa⟩ := ha
  refine ⟨_, pe_callS (E := WE W) F hr hg hm hk hb (fun σ => passAt tk σ) pa hdb hs hpl, fun σ H ρ Γ L Q E A h => ?_⟩
  refine qa σ H ρ Γ L _ E A (hbind h fun xs L1 vs H1 ρ1 e1 r1 A1 h1 => ?_)
  exact ⟨xs, L1, ρ1, r1, A1, hold_W (fun c dd H h => h) h1⟩
mutual
def closed (n : Nat) : D → Bool
  | .tup xs => closeds n xs
  | .rol xs => closeds n xs
  | .loc m => decide (m < n)
  | _ => true
def closeds (n : Nat) : List D → Bool
  | [] => true
  | x :: xs => closed n x && closeds n xs
end
/-- what a call hands back: its own lists are forgotten where the answer does not hold them -/
noncomputable def trunc (L0 : Lh) (d : D) (L : Lh) : R3 D := if L.take L0.length = L0 then (if closed L0.length d = true then .val d L0 else match d with
    | .loc m => (match L[m]? with
      | some (.lst xs) => if closeds L0.length xs = true then .val (.loc L0.length) (L0 ++ [.lst xs]) else .val d L
      | _ => .val d L)
    | _ => .val d L) else .val d L
noncomputable def truncX (L0 : Lh) (c : Str) (L : Lh) : R3 D := if L.take L0.length = L0 then .exn c L0 else .exn c L
noncomputable def run3 (k n : Nat) (t : S3) (ds : List D) (L : Lh) : R3 D := if ds.length = k then (match t (ds.map some ++ List.replicate (n - ds.length) none) L with
  | .nx _ L' => trunc L .non L'
  | .ret d L' => trunc L d L'
  | .exn c _ L' => truncX L c L'
  | _ => .stuck) else .stuck
section
variable {K : PySem.W.Frag} {ρ ρ' : List Addr} {H H' : Hp} {L L' : Lh}
mutual
theorem Rep.cut {m : Nat} : ∀ (d : D) {v : V}, Rep K ρ H d v → closed m d = true → Rep K (ρ.take m) H d v
  | .non, _, h, _ => h
  | .bl _, _, h, _ => h
  | .int _, _, h, _ => h
  | .str _, _, h, _ => h
  | .tup xs, _, ⟨a, vs, h1, h2, h3⟩, c => ⟨a, vs, h1, h2, Reps.cut xs h3 c⟩
  | .loc n, _, ⟨a, h1, h2⟩, c => ⟨a, h1, by
    have hn : n < m := by simpa [closed] using c
    rw [List.getElem?_take_of_lt hn]; exact h2⟩
  | .rol xs, _, ⟨a, vs, h1, h2, h3⟩, c => ⟨a, vs, h1, h2, Reps.cut xs h3 c⟩
  | .val _, _, h, _ => h
theorem Reps.cut {m : Nat} : ∀ (ds : List D) {vs : List V}, Reps K ρ H ds vs → closeds m ds = true → Reps K (ρ.take m) H ds vs
  | [], _, h, _ => h
  | x :: xs, _, ⟨v, r, h1, h2, h3⟩, c => by
    rw [closeds, Bool.and_eq_true] at c
    exact ⟨v, r, h1, Rep.cut x h2 c.1, Reps.cut xs h3 c.2⟩
end
mutual
theorem Rep.closed : ∀ (d : D) {v : V}, Rep K ρ H d v → closed ρ.length d = true
  | .non, _, _ => rfl
  | .bl _, _, _ => rfl
  | .int _, _, _ => rfl
  | .str _, _, _ => rfl
  | .tup xs, _, ⟨a, vs, h1, h2, h3⟩ => Reps.closed xs h3
  | .loc n, _, ⟨a, h1, h2⟩ => by
    have := (List.getElem?_eq_some_iff.mp h2).1
    simpa [closed] using this
  | .rol xs, _, ⟨a, vs, h1, h2, h3⟩ => Reps.closed xs h3
  | .val _, _, _ => rfl
theorem Reps.closed : ∀ (ds : List D) {vs : List V}, Reps K ρ H ds vs → closeds ρ.length ds = true
  | [], _, _ => rfl
  | x :: xs, _, ⟨v, r, h1, h2, h3⟩ => by
    rw [closeds, Bool.and_eq_true]
    exact ⟨Rep.closed x h2, Reps.closed xs h3⟩
end
theorem FReps.cut {m : Nat} : ∀ (fs : List (Str × D)) {gs : List (Str × V)}, FReps K ρ H fs gs → closeds m (fs.map (·.2)) = true → FReps K (ρ.take m) H fs gs
  | [], _, h, _ => h
  | x :: xs, _, ⟨v, r, h1, h2, h3⟩, c => by
    rw [List.map_cons, closeds, Bool.and_eq_true] at c
    exact ⟨v, r, h1, Rep.cut x.2 h2 c.1, FReps.cut xs h3 c.2⟩
theorem FReps.closed : ∀ (fs : List (Str × D)) {gs : List (Str × V)}, FReps K ρ H fs gs → closeds ρ.length (fs.map (·.2)) = true
  | [], _, _ => rfl
  | x :: xs, _, ⟨v, r, h1, h2, h3⟩ => by
    rw [List.map_cons, closeds, Bool.and_eq_true]
    exact ⟨Rep.closed x.2 h2, FReps.closed xs h3⟩
/-- the cells that stood ahead of a call stand behind it -/
theorem Ab.back (A : Ab K ρ H L) (e : Ext ρ H ρ' H') (A' : Ab K ρ' H' L') (h : L'.take L.length = L) : Ab K ρ H' L := by
  obtain ⟨t, rfl⟩ := e.pre
  have et : (ρ ++ t).take L.length = ρ := by rw [← A.len]; simp
  refine ⟨A.len, A.nd, fun n c q => ?_⟩
  have hn : n < L.length := (List.getElem?_eq_some_iff.mp q).1
  obtain ⟨a0, p1, c0⟩ := A.cell n c q
  have q' : L'[n]? = some c := by
    rw [← h, List.getElem?_take_of_lt hn] at q; exact q
  obtain ⟨a, p2, c1⟩ := A'.cell n c q'
  have p3 : (ρ ++ t)[n]? = some a0 := e.at p1
  obtain rfl : a = a0 := Option.some.inj (p2.symm.trans p3)
  refine ⟨a, p1, ?_⟩
  cases c with
  | lst xs =>
    obtain ⟨vs0, _, r0⟩ := c0
    obtain ⟨vs, hv, r⟩ := c1
    refine ⟨vs, hv, ?_⟩
    have := Reps.cut (m := L.length) xs r (by rw [← A.len]; exact Reps.closed xs r0)
    rw [et] at this; exact this
  | ins C fs =>
    obtain ⟨_, _, _, _, r0⟩ := c0
    obtain ⟨dx, gs, hv, ho, r⟩ := c1
    refine ⟨dx, gs, hv, ho, ?_⟩
    have := FReps.cut (m := L.length) fs r (by rw [← A.len]; exact FReps.closed fs r0)
    rw [et] at this; exact this
theorem trunc_hold {W : WX} {σ : L2.St} {Q : VK} {d : D} (A : Ab K ρ H L) (h : Hold K W σ ρ H (Rep K) Q (trunc L d L')) : Hold K W σ ρ H (Rep K) Q (.val d L') := by
  unfold trunc at h
  by_cases h1 : L'.take L.length = L
  · rw [if_pos h1] at h
    by_cases h2 : closed L.length d = true
    · rw [if_pos h2] at h
      intro v H' ρ' e r A'
      obtain ⟨t, rfl⟩ := id e.pre
      have et : (ρ ++ t).take L.length = ρ := by rw [← A.len]; simp
      have r' := Rep.cut (m := L.length) d r h2
      rw [et] at r'
      exact h v H' ρ ⟨e.tup, e.frz, [], (List.append_nil ρ).symm⟩ r' (A.back e A' h1)
    · rw [if_neg h2] at h
      cases d with
      | loc m =>
        simp only at h
        cases hm : L'[m]? with
        | none => rw [hm] at h; exact h
        | some c =>
          cases c with
          | ins C fs => rw [hm] at h; exact h
          | lst xs =>
            rw [hm] at h
            simp only at h
            by_cases h3 : closeds L.length xs = true
            · rw [if_pos h3] at h
              intro v H' ρ' e r A'
              obtain ⟨a, vs, rfl, ha, hv, hr⟩ := A'.at hm r
              obtain ⟨t, rfl⟩ := id e.pre
              have et : (ρ ++ t).take L.length = ρ := by rw [← A.len]; simp
              have hr' := Reps.cut (m := L.length) xs hr h3
              rw [et] at hr'
              have B := A.back e A' h1
              have hml : ¬ m < L.length := fun z => h2 (by simpa [closed] using z)
              have nin : a ∉ ρ := fun hin => by
                obtain ⟨n, hn⟩ := List.getElem?_of_mem hin
                have hl : n < L.length := by rw [← A.len]; exact (List.getElem?_eq_some_iff.mp hn).1
                exact hml (nodup_at A' ha (e.at hn) ▸ hl)
              have ex : Ext ρ H (ρ ++ [a]) H' := ⟨e.tup, e.frz, [a], rfl⟩
              have el : (ρ ++ [a])[L.length]? = some a := by rw [← A.len, List.getElem?_append_right (Nat.le_refl _), Nat.sub_self]; rfl
              refine h (.ref a) H' (ρ ++ [a]) ex ⟨a, rfl, el⟩ ⟨by rw [List.length_append, List.length_append, A.len]; rfl, ?_, fun n c q => ?_⟩
              · rw [List.nodup_append]
                exact ⟨A.nd, by simp, fun x hx y hy z => nin (by rw [List.mem_singleton.mp hy] at z; exact z ▸ hx)⟩
              · by_cases hn : n < L.length
                · rw [List.getElem?_append_left hn] at q
                  obtain ⟨b, q1, q2⟩ := B.cell n c q
                  have e2 : Ext ρ H' (ρ ++ [a]) H' := ext_more ρ [a] H'
                  exact ⟨b, e2.at q1, q2.keep e2 (fun _ z => z) fun _ z => z⟩
                · have hn' : n = L.length := by
                    have := (List.getElem?_eq_some_iff.mp q).1
                    rw [List.length_append] at this
                    simp at this; omega
                  subst hn'
                  rw [List.getElem?_append_right (Nat.le_refl _), Nat.sub_self] at q
                  simp at q; subst q
                  exact ⟨a, el, vs, hv, Reps.mono (ext_more ρ [a] H') _ hr'⟩
            · rw [if_neg h3] at h; exact h
      | _ => exact h
  · rw [if_neg h1] at h; exact h
theorem truncX_hold {W : WX} {σ : L2.St} {Q : VK} {c : Str} (A : Ab K ρ H L) (h : Hold K W σ ρ H (Rep K) Q (truncX L c L')) : Hold K W σ ρ H (Rep K) Q (.exn c L') := by
  unfold truncX at h
  by_cases h1 : L'.take L.length = L
  · rw [if_pos h1] at h
    intro H' ρ' e A'
    exact h H' ρ ⟨e.tup, e.frz, [], (List.append_nil ρ).symm⟩ (A.back e A' h1)
  · rw [if_neg h1] at h; exact h
end
theorem env_start {K : PySem.W.Frag} {ρ : List Addr} {H : Hp} {N : List Str} {ds : List D} {vs : List V} (r : Reps K ρ H ds vs) (n : Nat) (hn : N.length = n) : Env3 K ρ H (L2.start N vs) (ds.map some ++ List.replicate (n - ds.length) none) := by
  have hl := Reps.length r
  refine ⟨by unfold L2.start; simp [hl, hn], fun i d q => ?_⟩
  by_cases hi : i < ds.length
  · rw [List.getElem?_append_left (by simpa using hi), List.getElem?_map] at q
    cases hd : ds[i]? with
    | none => rw [hd] at q; cases q
    | some d' =>
      rw [hd] at q
      have e : d' = d := by simpa using q
      subst e
      obtain ⟨v, e1, e2⟩ := r.get hd
      refine ⟨v, ?_, e2⟩
      unfold L2.start
      rw [List.getElem?_append_left (by simp; omega), List.getElem?_map, e1]; rfl
  · rw [List.getElem?_append_right (by simpa using Nat.le_of_not_lt hi)] at q
    rw [List.getElem?_replicate] at q
    split at q <;> cases q
/-- A DEF keeps its level-3 promise -/
theorem fn3 {P : Program} {w : World} {K : PySem.W.Frag} {mg : Str → Option Value} {base : Heap} {x qual : Str} {params : Arguments} {body : List Stmt} {scope : Scope} {dvs : List V} {kws : List (Str × V)} {f : Addr} {fd : FuncData} {N ps : List Str} {k n m : Nat} {t : S3}
    (F : FunD K x qual params body scope dvs kws f fd) (S : FnScope N ps scope) (hps : ps.length = m) (hN : N.length = n)
    (hbody : ∀ (X : Cx), X.prog = P → X.w = w → X.K = K → X.mg = mg → X.base = base → X.N = N → X.env.scope = scope → X.calm = true → Room k X.A → (∀ x, X.fn x = true) → (∀ E : XK, True) → ∀ W, Takes X W → PassesOwn (model X.prog X.w) X.A X.env X.xe → PSs3 X W body t) :
    FnOk P w K mg base (L2.CX P w) (k + 1) f fd ps (emb K (run3 m n t)) := by
  refine F.ok S (fun vs H Q E h => ?_) (fun cdv A outer s H vs Q E hr h => ?_)
  · obtain ⟨ds, L, ρ, r, _, h⟩ := h
    unfold run3 at h
    split at h
    · rename_i hl
      rw [hps, Reps.length r]; exact hl
    · exact h.elim
  · obtain ⟨ds, L, ρ, r, Ab0, h⟩ := h
    have hW : Takes (cxOf (L2.CX P w) P w K mg base N qual scope f cdv A outer s H E) (fun c dd _ H => E c dd H) := takes_of rfl rfl rfl rfl
    obtain ⟨ts, p, q⟩ := hbody (cxOf (L2.CX P w) P w K mg base N qual scope f cdv A outer s H E) rfl rfl rfl rfl rfl rfl rfl rfl hr (fun _ => rfl) (fun _ => trivial) _ hW (passes_of (K := fun e s'' => L2.CX P w outer H s E e s'') rfl)
    refine ⟨ts, p, q _ H ρ _ L _ (env_start r n hN) Ab0 ?_⟩
    unfold run3 at h
    split at h
    · cases ht : t (ds.map some ++ List.replicate (n - ds.length) none) L with
      | nx Γ L' =>
        rw [ht] at h
        have h := trunc_hold Ab0 h
        exact fun σ' H' ρ' e E' A' => h .non H' ρ' e rfl A'
      | ret d L' =>
        rw [ht] at h
        exact trunc_hold Ab0 h
      | exn c Γ L' =>
        rw [ht] at h
        have h := truncX_hold Ab0 h
        exact fun σ' H' ρ' e E' A' => h H' ρ' e A'
      | brk _ _ => rw [ht] at h; exact h.elim
      | ct _ _ => rw [ht] at h; exact h.elim
      | stuck => rw [ht] at h; exact h.elim
    · exact h.elim
end
/-! ## data -/
def opts {α : Type} (f : D → Option α) : List D → Option (List α)
  | [] => some []
  | x :: r => match f x, opts f r with
    | some a, some b => some (a :: b)
    | _, _ => none
def dat : Nat → Lh → D → Option PyData
  | 0, _, _ => none
  | k + 1, L, d => match d with
    | .non => some .none
    | .bl b => some (.bool b)
    | .int i => some (.int i)
    | .str x => some (.str x)
    | .tup xs => (opts (dat k L) xs).map .tuple
    | .rol xs => (opts (dat k L) xs).map .list
    | .loc n => (match L[n]? with
      | some (.lst xs) => (opts (dat k L) xs).map .list
      | _ => none)
    | .val _ => none
@[simp] theorem dat_non {k : Nat} {L : Lh} : dat (k + 1) L .non = some .none := rfl
@[simp] theorem dat_bl {k : Nat} {L : Lh} {b : Bool} : dat (k + 1) L (.bl b) = some (.bool b) := rfl
@[simp] theorem dat_int {k : Nat} {L : Lh} {i : Int} : dat (k + 1) L (.int i) = some (.int i) := rfl
@[simp] theorem dat_str {k : Nat} {L : Lh} {x : Str} : dat (k + 1) L (.str x) = some (.str x) := rfl
@[simp] theorem dat_tup {k : Nat} {L : Lh} {xs : List D} : dat (k + 1) L (.tup xs) = (opts (dat k L) xs).map .tuple := rfl
theorem dat_loc {k : Nat} {L : Lh} {n : Nat} {xs : List D} (h : L[n]? = some (.lst xs)) : dat (k + 1) L (.loc n) = (opts (dat k L) xs).map .list := by simp only [dat, h]
@[simp] theorem opts_nil {α : Type} {f : D → Option α} : opts f [] = some [] := rfl
theorem opts_cons {α : Type} {f : D → Option α} {x : D} {r : List D} {a : α} {b : List α} (h1 : f x = some a) (h2 : opts f r = some b) : opts f (x :: r) = some (a :: b) := by simp only [opts, h1, h2]
@[simp] theorem eqv_int (a b : Int) : PyData.eqv (.int a) (.int b) = decide (a = b) := by show (a == b) = _; rw [Bool.beq_eq_decide_eq]
@[simp] theorem eqv_none : PyData.eqv .none .none = true := rfl
@[simp] theorem eqv_bool (a b : Bool) : PyData.eqv (.bool a) (.bool b) = (a == b) := rfl
@[simp] theorem eqv_str (a b : Str) : PyData.eqv (.str a) (.str b) = (a == b) := rfl
@[simp] theorem eqv_tuple (a b : List PyData) : PyData.eqv (.tuple a) (.tuple b) = PyData.eqvAll a b := by simp only [PyData.eqv]
@[simp] theorem eqv_list (a b : List PyData) : PyData.eqv (.list a) (.list b) = PyData.eqvAll a b := by simp only [PyData.eqv]
@[simp] theorem eqv_cons (x y : PyData) (a b : List PyData) : PyData.eqvAll (x :: a) (y :: b) = (PyData.eqv x y && PyData.eqvAll a b) := by simp only [PyData.eqvAll]
@[simp] theorem eqv_nil : PyData.eqvAll [] [] = true := by simp only [PyData.eqvAll]
@[simp] theorem eqv_nc (x : PyData) (a : List PyData) : PyData.eqvAll [] (x :: a) = false := by simp only [PyData.eqvAll]
@[simp] theorem eqv_cn (x : PyData) (a : List PyData) : PyData.eqvAll (x :: a) [] = false := by simp only [PyData.eqvAll]
@[simp] theorem shaped_int (a : Int) : SeqAt.shaped (.int a) = true := rfl
@[simp] theorem shaped_none : SeqAt.shaped .none = true := rfl
@[simp] theorem shaped_bool (a : Bool) : SeqAt.shaped (.bool a) = true := rfl
section
variable {K : PySem.W.Frag} {ρ : List Addr} {H : Hp} {L : Lh}
theorem opts_dp {f : D → Option PyData} (hf : ∀ d v p, f d = some p → Rep K ρ H d v → Dp K H v p) : ∀ (ds : List D) (vs : List V) (ps : List PyData), opts f ds = some ps → Reps K ρ H ds vs → DpAll K H vs ps
  | [], vs, ps, h, r => by
    rw [show vs = [] from r]
    rw [show ps = [] from by simpa [opts] using h.symm]
    exact .nil
  | x :: xs, vs, ps, h, ⟨v, r, h1, h2, h3⟩ => by
    subst h1
    unfold opts at h
    split at h
    · rename_i a b q1 q2
      cases h
      exact .cons (hf x v a q1 h2) (opts_dp hf xs r b q2 h3)
    · cases h
theorem dat_dp (A : Ab K ρ H L) : ∀ (k : Nat) (d : D) (v : V) (p : PyData), dat k L d = some p → Rep K ρ H d v → Dp K H v p
  | 0, _, _, _, h, _ => by cases h
  | k + 1, d, v, p, h, r => by
    have ih := dat_dp A k
    cases d with
    | non => cases h; rw [show v = .non from r]; exact .non
    | bl b => cases h; rw [show v = .bl b from r]; exact .bl b
    | int i => cases h; rw [show v = .int i from r]; exact .int i
    | str x => cases h; rw [show v = .str x from r]; exact .str x
    | tup xs =>
      obtain ⟨a, vs, rfl, h1, h2⟩ := r
      simp only [dat, Option.map_eq_some_iff] at h
      obtain ⟨ps, q, rfl⟩ := h
      exact .tup h1 (opts_dp ih xs vs ps q h2)
    | rol xs =>
      obtain ⟨a, vs, rfl, h1, h2⟩ := r
      simp only [dat, Option.map_eq_some_iff] at h
      obtain ⟨ps, q, rfl⟩ := h
      exact .lst h1.sq (opts_dp ih xs vs ps q h2)
    | loc n =>
      simp only [dat] at h
      split at h
      · rename_i xs hx
        obtain ⟨a, vs, rfl, _, hv, hr⟩ := A.at hx r
        rw [Option.map_eq_some_iff] at h
        obtain ⟨ps, q, rfl⟩ := h
        exact .lst (SqL.of hv) (opts_dp ih xs vs ps q hr)
      · cases h
    | val u => cases h
def intsD : List D → Option (List Int) := opts fun d => match d with
  | .int i => some i
  | _ => none
def blsD : List D → Option (List Bool) := opts fun d => match d with
  | .bl i => some i
  | _ => none
def strsD : List D → Option (List Str) := opts fun d => match d with
  | .str i => some i
  | _ => none
theorem opts_map {α : Type} {f : D → Option α} {g : α → V} (hf : ∀ d v p, f d = some p → Rep K ρ H d v → v = g p) : ∀ (ds : List D) (vs : List V) (ps : List α), opts f ds = some ps → Reps K ρ H ds vs → vs = ps.map g
  | [], vs, ps, h, r => by
    rw [show vs = [] from r]
    rw [show ps = [] from by simpa [opts] using h.symm]
    rfl
  | x :: xs, vs, ps, h, ⟨v, r, h1, h2, h3⟩ => by
    subst h1
    unfold opts at h
    split at h
    · rename_i a b q1 q2
      cases h
      rw [List.map_cons, ← opts_map hf xs r b q2 h3, hf x v a q1 h2]
    · cases h
theorem ints_v {ds : List D} {vs : List V} {ps : List Int} (h : intsD ds = some ps) (r : Reps K ρ H ds vs) : vs = ps.map V.int :=
  opts_map (g := V.int) (fun d v p h r => by split at h <;> cases h; exact r) ds vs ps h r
theorem bls_v {ds : List D} {vs : List V} {ps : List Bool} (h : blsD ds = some ps) (r : Reps K ρ H ds vs) : vs = ps.map V.bl :=
  opts_map (g := V.bl) (fun d v p h r => by split at h <;> cases h; exact r) ds vs ps h r
theorem strs_v {ds : List D} {vs : List V} {ps : List Str} (h : strsD ds = some ps) (r : Reps K ρ H ds vs) : vs = ps.map V.str :=
  opts_map (g := V.str) (fun d v p h r => by split at h <;> cases h; exact r) ds vs ps h r
/-- the items of a list -/
def items (x : D) (L : Lh) : Option (List D) := match x with
  | .rol xs => some xs
  | .loc n => (match L[n]? with
    | some (.lst xs) => some xs
    | _ => none)
  | _ => none
@[simp] theorem items_rol {xs : List D} {L : Lh} : items (.rol xs) L = some xs := rfl
theorem items_loc {n : Nat} {L : Lh} {xs : List D} (h : L[n]? = some (.lst xs)) : items (.loc n) L = some xs := by unfold items; simp only [h]
theorem items_sq (A : Ab K ρ H L) {x : D} {v : V} {xs : List D} (h : items x L = some xs) (r : Rep K ρ H x v) : ∃ a vs, v = .ref a ∧ SqL K H a vs ∧ Reps K ρ H xs vs := by
  unfold items at h
  split at h
  · cases h
    obtain ⟨a, vs, rfl, h1, h2⟩ := r
    exact ⟨a, vs, rfl, h1.sq, h2⟩
  · split at h
    · rename_i xs hx
      cases h
      obtain ⟨a, vs, rfl, _, hv, hr⟩ := A.at hx r
      exact ⟨a, vs, rfl, SqL.of hv, hr⟩
    · cases h
  · cases h
/-- items of a list or a tuple -/
def itemsT (x : D) (L : Lh) : Option (List D) := match x with
  | .tup xs => some xs
  | x => items x L
@[simp] theorem itemsT_tup {xs : List D} {L : Lh} : itemsT (.tup xs) L = some xs := rfl
@[simp] theorem itemsT_rol {xs : List D} {L : Lh} : itemsT (.rol xs) L = some xs := rfl
@[simp] theorem itemsT_loc {n : Nat} {L : Lh} : itemsT (.loc n) L = items (.loc n) L := rfl
theorem itemsT_sq (A : Ab K ρ H L) {x : D} {v : V} {xs : List D} (h : itemsT x L = some xs) (r : Rep K ρ H x v) : ∃ a vs, v = .ref a ∧ (SqL K H a vs ∨ SqT K H a vs) ∧ Reps K ρ H xs vs := by
  unfold itemsT at h
  split at h
  · cases h
    obtain ⟨a, vs, rfl, h1, h2⟩ := r
    exact ⟨a, vs, rfl, .inr h1, h2⟩
  · obtain ⟨a, vs, e, h1, h2⟩ := items_sq A h r
    exact ⟨a, vs, e, .inl h1, h2⟩
theorem size_le {n : Nat} (h : n ≤ 100000) : n ≤ sizeLine := Nat.le_trans h (by decide)
theorem size_lt {n : Nat} (h : n ≤ 100000) : n < sizeLine := Nat.lt_of_le_of_lt h (by decide)
end
/-! ## operators -/
@[simp] noncomputable def fInt (C : Int → Int → Prop) (g : Int → Int → D) (x : D) (y : D) (L : Lh) : R3 D := match x, y with
  | .int i, .int j => if C i j then .val (g i j) L else .stuck
  | _, _ => .stuck
theorem ok_int {K : PySem.W.Frag} {C : Int → Int → Prop} {g : Int → Int → V} {g3 : Int → Int → D} (hg : ∀ ρ H i j, Rep K ρ H (g3 i j) (g i j)) : OpOk K (rI C g) (fInt C g3) := by
  intro W σ ρ H L Q x y vx vy A rx ry h
  unfold fInt at h
  split at h
  · rename_i i j
    split at h
    · rename_i hc
      exact ⟨i, j, rx, ry, hc, h.mk A (hg _ _ _ _)⟩
    · exact h.elim
  · exact h.elim
@[simp] def fInt0 (g : Int → Int → D) (x : D) (y : D) (L : Lh) : R3 D := match x, y with
  | .int i, .int j => .val (g i j) L
  | _, _ => .stuck
theorem ok_int0 {K : PySem.W.Frag} {g : Int → Int → V} {g3 : Int → Int → D} (hg : ∀ ρ H i j, Rep K ρ H (g3 i j) (g i j)) : OpOk K (rI0 g) (fInt0 g3) := by
  intro W σ ρ H L Q x y vx vy A rx ry h
  unfold fInt0 at h
  split at h
  · rename_i i j
    exact ⟨i, j, rx, ry, h.mk A (hg _ _ _ _)⟩
  · exact h.elim
noncomputable def fAdd (x : D) (y : D) (L : Lh) : R3 D := match x, y with
  | .int i, .int j => .val (.int (i + j)) L
  | .str a, .str b => if a.length + b.length ≤ 100000 then .val (.str (a ++ b)) L else .stuck
  | .loc n, .loc m => (match L[n]?, L[m]? with
    | some (.lst xs), some (.lst ys) => if xs.length + ys.length ≤ 100000 then .val (.loc L.length) (L ++ [.lst (xs ++ ys)]) else .stuck
    | _, _ => .stuck)
  | _, _ => .stuck
abbrev rAddS : R2 := fun x y H Q => ∃ i j, x = .str i ∧ y = .str j ∧ i.length + j.length ≤ sizeLine ∧ Q (.str (i ++ j)) H
abbrev rAdd3 : R2 := fun x y H Q => rI0 (fun i j => .int (i + j)) x y H Q ∨ (fun x y H Q => rAddS x y H Q ∨ rCat x y H Q) x y H Q
theorem op_add3 {X : Cx} : OpR X (binaryOp .Add) rAdd3 := op_add.or (op_add_str.or op_cat)
theorem ok_add {K : PySem.W.Frag} : OpOk K rAdd3 fAdd := by
  intro W σ ρ H L Q x y vx vy A rx ry h
  unfold fAdd at h
  split at h
  · rename_i i j
    exact .inl ⟨i, j, rx, ry, h.mk A rfl⟩
  · rename_i i j
    split at h
    · rename_i hl
      exact .inr (.inl ⟨i, j, rx, ry, size_le hl, h.mk A rfl⟩)
    · exact h.elim
  · split at h
    · rename_i xs ys h1 h2
      split at h
      · rename_i hl
        obtain ⟨a, vs, rfl, _, hv, hr⟩ := A.at h1 rx
        obtain ⟨b, us, rfl, _, hu, hs⟩ := A.at h2 ry
        exact .inr (.inr ⟨a, b, vs, us, rfl, rfl, hv, hu, by rw [Reps.length hr, Reps.length hs]; exact size_le hl, hold_new h A (Reps.append hr hs)⟩)
      · exact h.elim
    · exact h.elim
  · exact h.elim
@[simp] def fSub (x y : D) (L : Lh) : R3 D := (fInt0 fun i j => .int (i - j)) x y L
theorem ok_sub {K : PySem.W.Frag} : OpOk K (rI0 fun i j => .int (i - j)) fSub := ok_int0 fun _ _ _ _ => rfl
noncomputable def fMul (x : D) (y : D) (L : Lh) : R3 D := match x, y with
  | .int i, .int j => if CMulX i j then .val (.int (i * j)) L else .stuck
  | .loc n, .int k => (match L[n]? with
    | some (.lst xs) => if k ≤ 1000 ∧ -1000 ≤ k ∧ xs.length * k.toNat ≤ 100000 then .val (.loc L.length) (L ++ [.lst (List.replicate k.toNat xs).flatten]) else .stuck
    | _ => .stuck)
  | _, _ => .stuck
abbrev rMul3 : R2 := fun x y H Q => rI CMulX (fun i j => .int (i * j)) x y H Q ∨ rRep x y H Q
theorem op_mul3 {X : Cx} : OpR X (binaryOp .Mult) rMul3 := op_mulX.or op_rep
section
variable {K : PySem.W.Frag} {ρ : List Addr} {H : Hp}
theorem Reps.repl {ds : List D} {vs : List V} (r : Reps K ρ H ds vs) : ∀ k : Nat, Reps K ρ H (List.replicate k ds).flatten (List.replicate k vs).flatten
  | 0 => rfl
  | k + 1 => by rw [List.replicate_succ, List.replicate_succ, List.flatten_cons, List.flatten_cons]; exact Reps.append r (Reps.repl r k)
end
theorem ok_mul {K : PySem.W.Frag} : OpOk K rMul3 fMul := by
  intro W σ ρ H L Q x y vx vy A rx ry h
  unfold fMul at h
  split at h
  · rename_i i j
    split at h
    · rename_i hl
      exact .inl ⟨i, j, rx, ry, hl, h.mk A rfl⟩
    · exact h.elim
  · split at h
    · rename_i n k _ xs h1
      split at h
      · rename_i hl
        obtain ⟨a, vs, rfl, _, hv, hr⟩ := A.at h1 rx
        exact .inr ⟨a, k, vs, rfl, ry, hv, by omega, by omega, by rw [Reps.length hr]; exact size_le hl.2.2, hold_new h A (Reps.repl hr _)⟩
      · exact h.elim
    · exact h.elim
  · exact h.elim
def CDivA (i j : Int) : Prop := j ≠ 0
@[simp] noncomputable def fFdiv (x y : D) (L : Lh) : R3 D := (fInt (fun _ j => j ≠ 0) fun i j => .int (i.fdiv j)) x y L
theorem ok_fdiv {K : PySem.W.Frag} : OpOk K (rI (fun _ j => j ≠ 0) fun i j => .int (i.fdiv j)) fFdiv := ok_int fun _ _ _ _ => rfl
@[simp] noncomputable def fMod (x y : D) (L : Lh) : R3 D := (fInt (fun _ j => j ≠ 0) fun i j => .int (i.fmod j)) x y L
theorem ok_mod {K : PySem.W.Frag} : OpOk K (rI (fun _ j => j ≠ 0) fun i j => .int (i.fmod j)) fMod := ok_int fun _ _ _ _ => rfl
@[simp] noncomputable def fPow (x y : D) (L : Lh) : R3 D := (fInt CPow fun i j => .int (i ^ j.toNat)) x y L
theorem ok_pow {K : PySem.W.Frag} : OpOk K (rI CPow fun i j => .int (i ^ j.toNat)) fPow := ok_int fun _ _ _ _ => rfl
@[simp] noncomputable def fShl (x y : D) (L : Lh) : R3 D := (fInt CPow fun i j => .int (i * 2 ^ j.toNat)) x y L
theorem ok_shl {K : PySem.W.Frag} : OpOk K (rI CPow fun i j => .int (i * 2 ^ j.toNat)) fShl := ok_int fun _ _ _ _ => rfl
@[simp] noncomputable def fShr (x y : D) (L : Lh) : R3 D := (fInt (fun _ j => 0 ≤ j) fun i j => .int (i / 2 ^ j.toNat)) x y L
theorem ok_shr {K : PySem.W.Frag} : OpOk K (rI (fun _ j => 0 ≤ j) fun i j => .int (i / 2 ^ j.toNat)) fShr := ok_int fun _ _ _ _ => rfl
@[simp] def fBand (x y : D) (L : Lh) : R3 D := (fInt0 fun i j => .int (Builtin.bitAnd i j)) x y L
theorem ok_band {K : PySem.W.Frag} : OpOk K (rI0 fun i j => .int (Builtin.bitAnd i j)) fBand := ok_int0 fun _ _ _ _ => rfl
@[simp] def fLt (x y : D) (L : Lh) : R3 D := (fInt0 fun i j => .bl (decide (i < j))) x y L
theorem ok_lt {K : PySem.W.Frag} : OpOk K (rI0 fun i j => .bl (decide (i < j))) fLt := ok_int0 fun _ _ _ _ => rfl
@[simp] def fLe (x y : D) (L : Lh) : R3 D := (fInt0 fun i j => .bl (decide (i ≤ j))) x y L
theorem ok_le {K : PySem.W.Frag} : OpOk K (rI0 fun i j => .bl (decide (i ≤ j))) fLe := ok_int0 fun _ _ _ _ => rfl
@[simp] def fGt (x y : D) (L : Lh) : R3 D := (fInt0 fun i j => .bl (decide (j < i))) x y L
theorem ok_gt {K : PySem.W.Frag} : OpOk K (rI0 fun i j => .bl (decide (j < i))) fGt := ok_int0 fun _ _ _ _ => rfl
@[simp] def fGe (x y : D) (L : Lh) : R3 D := (fInt0 fun i j => .bl (decide (j ≤ i))) x y L
theorem ok_ge {K : PySem.W.Frag} : OpOk K (rI0 fun i j => .bl (decide (j ≤ i))) fGe := ok_int0 fun _ _ _ _ => rfl
def cmpD (neg : Bool) (x : D) (y : D) (L : Lh) : R3 D := match dat 8 L x, dat 8 L y with
  | some d, some e => if (SeqAt.shaped d && SeqAt.shaped e) = true then .val (.bl (if neg then !PyData.eqv d e else PyData.eqv d e)) L else .stuck
  | _, _ => .stuck
def fEq (x y : D) (L : Lh) : R3 D := (cmpD false) x y L
def fNe (x y : D) (L : Lh) : R3 D := (cmpD true) x y L
theorem ok_eq {K : PySem.W.Frag} : OpOk K (rEqD K) fEq := by
  intro W σ ρ H L Q x y vx vy A rx ry h
  unfold fEq cmpD at h
  split at h
  · rename_i d e h1 h2
    split at h
    · rename_i hs
      rw [Bool.and_eq_true] at hs
      exact ⟨d, e, dat_dp A 8 x vx d h1 rx, dat_dp A 8 y vy e h2 ry, hs.1, hs.2, h.mk A rfl⟩
    · exact h.elim
  · exact h.elim
theorem ok_ne {K : PySem.W.Frag} : OpOk K (rNeD K) fNe := by
  intro W σ ρ H L Q x y vx vy A rx ry h
  unfold fNe cmpD at h
  split at h
  · rename_i d e h1 h2
    split at h
    · rename_i hs
      rw [Bool.and_eq_true] at hs
      exact ⟨d, e, dat_dp A 8 x vx d h1 rx, dat_dp A 8 y vy e h2 ry, hs.1, hs.2, h.mk A rfl⟩
    · exact h.elim
  · exact h.elim
@[simp] def isNon : D → Option Bool
  | .non => some true
  | .val _ => none
  | _ => some false
theorem isNon_ok {K : PySem.W.Frag} {ρ : List Addr} {H : Hp} {d : D} {v : V} {b : Bool} (r : Rep K ρ H d v) (h : isNon d = some b) : decide (v = .non) = b := by
  cases d with
  | non => cases h; rw [show v = .non from r]; rfl
  | bl _ => cases h; rw [show v = .bl _ from r]; rfl
  | int _ => cases h; rw [show v = .int _ from r]; rfl
  | str _ => cases h; rw [show v = .str _ from r]; rfl
  | tup _ => cases h; obtain ⟨a, _, rfl, _⟩ := r; rfl
  | rol _ => cases h; obtain ⟨a, _, rfl, _⟩ := r; rfl
  | loc _ => cases h; obtain ⟨a, rfl, _⟩ := r; rfl
  | val _ => cases h
@[simp] def fIs (neg : Bool) (x : D) (y : D) (L : Lh) : R3 D := match y, isNon x with
  | .non, some b => .val (.bl (if neg then !b else b)) L
  | _, _ => .stuck
theorem ok_is {K : PySem.W.Frag} : OpOk K (fun x y H Q => y = .non ∧ Q (.bl (decide (x = .non))) H) (fIs false) := by
  intro W σ ρ H L Q x y vx vy A rx ry h
  unfold fIs at h
  split at h
  · rename_i b hb
    refine ⟨ry, ?_⟩
    rw [isNon_ok rx hb]
    exact h.mk A rfl
  · exact h.elim
theorem ok_isnot {K : PySem.W.Frag} : OpOk K (fun x y H Q => y = .non ∧ Q (.bl (!decide (x = .non))) H) (fIs true) := by
  intro W σ ρ H L Q x y vx vy A rx ry h
  unfold fIs at h
  split at h
  · rename_i b hb
    refine ⟨ry, ?_⟩
    rw [isNon_ok rx hb]
    exact h.mk A rfl
  · exact h.elim
@[simp] def fNeg (x : D) (L : Lh) : R3 D := match x with
  | .int i => .val (.int (-i)) L
  | _ => .stuck
theorem ok_neg {K : PySem.W.Frag} : UnOk K (rU fun i => .int (-i)) fNeg := by
  intro W σ ρ H L Q x vx A rx h
  unfold fNeg at h
  split at h
  · exact ⟨_, rx, h.mk A rfl⟩
  · exact h.elim
/-! in -/
def fIn (neg : Bool) (x : D) (y : D) (L : Lh) : R3 D := match dat 8 L x, dat 8 L y with
  | some d, some (.list ds) => if (SeqAt.shaped d && SeqAt.shaped (.list ds)) = true then .val (.bl (if neg then !(ds.any fun z => PyData.eqv z d) else ds.any fun z => PyData.eqv z d)) L else .stuck
  | _, _ => .stuck
theorem ok_in {K : PySem.W.Frag} : OpOk K (rInD K) (fIn false) := by
  intro W σ ρ H L Q x y vx vy A rx ry h
  unfold fIn at h
  split at h
  · rename_i d ds h1 h2
    split at h
    · rename_i hs
      rw [Bool.and_eq_true] at hs
      exact ⟨d, ds, dat_dp A 8 x vx d h1 rx, dat_dp A 8 y vy _ h2 ry, hs.1, hs.2, h.mk A rfl⟩
    · exact h.elim
  · exact h.elim
theorem ok_notin {K : PySem.W.Frag} : OpOk K (rNotInD K) (fIn true) := by
  intro W σ ρ H L Q x y vx vy A rx ry h
  unfold fIn at h
  split at h
  · rename_i d ds h1 h2
    split at h
    · rename_i hs
      rw [Bool.and_eq_true] at hs
      exact ⟨d, ds, dat_dp A 8 x vx d h1 rx, dat_dp A 8 y vy _ h2 ry, hs.1, hs.2, h.mk A rfl⟩
    · exact h.elim
  · exact h.elim
/-! subscripts -/
def fIx (x : D) (y : D) (L : Lh) : R3 D := match y with
  | .int i => (match itemsT x L with
    | some xs => (match atI xs i with
      | some d => .val d L
      | none => .stuck)
    | none => .stuck)
  | _ => .stuck
theorem Reps.atI {K : PySem.W.Frag} {ρ : List Addr} {H : Hp} {ds : List D} {vs : List V} (r : Reps K ρ H ds vs) {i : Int} {d : D} (h : L2.atI ds i = some d) : ∃ v, L2.atI vs i = some v ∧ Rep K ρ H d v := by
  unfold L2.atI at h ⊢
  rw [Reps.length r]
  cases e : ixN ds.length i with
  | none => rw [e] at h; cases h
  | some j =>
    rw [e] at h
    exact r.get h
theorem ok_ix {K : PySem.W.Frag} : OpOk K (rIx K) fIx := by
  intro W σ ρ H L Q x y vx vy A rx ry h
  unfold fIx at h
  split at h
  · rename_i i
    split at h
    · rename_i xs hx
      split at h
      · rename_i d hd
        obtain ⟨a, vs, rfl, hs, hr⟩ := itemsT_sq A hx rx
        obtain ⟨v, e1, e2⟩ := hr.atI hd
        rcases hs with hs | hs
        · exact .inl ⟨a, vs, i, v, rfl, ry, hs, e1, h.mk A e2⟩
        · exact .inr (.inl ⟨a, vs, i, v, rfl, ry, hs, e1, h.mk A e2⟩)
      · exact h.elim
    · exact h.elim
  · exact h.elim
/-! slices -/
def cutD (xs : List D) (lo hi : Option Int) : List D := (xs.drop (HT.sIx xs.length 0 lo)).take (HT.sIx xs.length xs.length hi - HT.sIx xs.length 0 lo)
theorem Reps.cutV {K : PySem.W.Frag} {ρ : List Addr} {H : Hp} {ds : List D} {vs : List V} (r : Reps K ρ H ds vs) (lo hi : Option Int) : Reps K ρ H (cutD ds lo hi) (L2.cutV vs lo hi) := by
  unfold cutD L2.cutV
  rw [Reps.length r]
  exact (r.drop _).take _
abbrev O3 := G3 → Lh → R3 (Option Int)
def RepO (ρ : List Addr) (H : Hp) (a b : Option Int) : Prop := a = b
def PO3 (X : Cx) (W : WX) (e : Option Expr) (f : O3) : Prop := ∃ t, PO X e t ∧ ∀ σ H ρ Γ L Q, Env3 X.K ρ H σ Γ → Ab X.K ρ H L → Hold X.K W σ ρ H RepO Q (f Γ L) → t σ H Q
@[simp] def oNo (_ : G3) (L : Lh) : R3 (Option Int) := .val none L
@[simp] def oSo (f : E3) (Γ : G3) (L : Lh) : R3 (Option Int) := (f Γ L).bind fun d L1 => match d with
  | .int i => .val (some i) L1
  | _ => .stuck
section
variable {X : Cx} {W : WX} {pos : Pos}
theorem o3_no : PO3 X W none oNo := ⟨_, po_none, fun σ H ρ Γ L Q E A h => h.mk A rfl⟩
theorem o3_so {e : Expr} {f : E3} (h : PE3 X W e f) : PO3 X W (some e) (oSo f) := by
  obtain ⟨te, p, q⟩ := h
  refine ⟨_, po_some p, fun σ H ρ Γ L Q E A h => ?_⟩
  refine q σ H ρ Γ L _ E A (hbind h fun x L1 vx H1 ρ1 e1 r1 A1 h1 => ?_)
  split at h1
  · exact ⟨_, r1, h1.mk A1 rfl⟩
  · exact h1.elim
/-- a slice of a list (a new one), a tuple, a text -/
def sliceD (x : D) (a b : Option Int) (L : Lh) : R3 D := match x with
  | .tup xs => .val (.tup (cutD xs a b)) L
  | .str z => if z.length ≤ 100000 then .val (.str (cutS z a b)) L else .stuck
  | x => (match items x L with
    | some xs => .val (.loc L.length) (L ++ [.lst (cutD xs a b)])
    | none => .stuck)
@[simp] theorem sliceD_tup {xs : List D} {a b : Option Int} {L : Lh} : sliceD (.tup xs) a b L = .val (.tup (cutD xs a b)) L := rfl
theorem sliceD_loc {n : Nat} {xs : List D} {a b : Option Int} {L : Lh} (h : L[n]? = some (.lst xs)) : sliceD (.loc n) a b L = .val (.loc L.length) (L ++ [.lst (cutD xs a b)]) := by
  have e := items_loc h
  show (match items (.loc n) L with | some xs => R3.val (D.loc L.length) (L ++ [Cell.lst (cutD xs a b)]) | none => .stuck) = _
  rw [e]
@[simp] theorem sliceD_rol {xs : List D} {a b : Option Int} {L : Lh} : sliceD (.rol xs) a b L = .val (.loc L.length) (L ++ [.lst (cutD xs a b)]) := rfl
@[simp] def eSl (f : E3) (lo hi : O3) (Γ : G3) (L : Lh) : R3 D := (f Γ L).bind fun x L1 => (lo Γ L1).bind fun a L2 => (hi Γ L2).bind fun b L3 => sliceD x a b L3
theorem e3_slice {e : Expr} {lo hi : Option Expr} {p2 : Pos} {f : E3} {fl fh : O3} (he : PE3 X W e f) (hl : PO3 X W lo fl) (hh : PO3 X W hi fh) : PE3 X W (.Subscript e (.Slice lo hi none p2) pos) (eSl f fl fh) := by
  obtain ⟨te, p, q⟩ := he
  obtain ⟨tl, pl, ql⟩ := hl
  obtain ⟨th, ph, qh⟩ := hh
  refine ⟨_, pe_slice (sl_list.or (sl_tupA.or sl_str)) p pl ph, fun σ H ρ Γ L Q E A h => ?_⟩
  refine q σ H ρ Γ L _ E A (hbind h fun x L1 vx H1 ρ1 e1 r1 A1 h1 => ?_)
  refine ql σ H1 ρ1 Γ L1 _ (E.mono e1) A1 (hbind h1 fun a L2 va H2 ρ2 e2 r2 A2 h2 => ?_)
  obtain rfl : a = va := r2
  refine qh σ H2 ρ2 Γ L2 _ (E.mono (e1.trans e2)) A2 (hbind h2 fun b L3 vb H3 ρ3 e3 r3 A3 h3 => ?_)
  obtain rfl : b = vb := r3
  have r4 := Rep.mono (e2.trans e3) x r1
  unfold sliceD at h3
  split at h3
  · rename_i xs
    obtain ⟨a', vs, rfl, hs, hr⟩ := r4
    refine .inr (.inl ⟨a', vs, rfl, hs, ?_⟩)
    have hl := Reps.length hr
    refine ⟨fun hw => h3.mk A3 ?_, fun _ p hp => h3 _ _ ρ3 (ext_new hp) ⟨p, _, rfl, SqT.of upd_same, Reps.mono (ext_new hp) _ (hr.cutV a b)⟩ (A3.new hp)⟩
    have ew : cutD xs a b = xs := by
      unfold cutD
      rw [← hl, hw.1, hw.2, List.drop_zero, Nat.sub_zero, hl, List.take_length]
    rw [ew]
    exact ⟨a', vs, rfl, hs, hr⟩
  · split at h3
    · rename_i z hz
      exact .inr (.inr ⟨z, r4, size_le hz, h3.mk A3 rfl⟩)
    · exact h3.elim
  · split at h3
    · rename_i xs hx
      obtain ⟨a', vs, rfl, hs, hr⟩ := items_sq A3 hx r4
      exact .inl ⟨a', vs, rfl, hs, hold_new h3 A3 (hr.cutV a b)⟩
    · exact h3.elim
end
/-! ## built-ins -/
@[simp] def fAbs (xs : List D) (L : Lh) : R3 D := match xs with
  | [.int i] => .val (.int (if i < 0 then -i else i)) L
  | _ => .stuck
theorem Reps.inv1 {K : PySem.W.Frag} {ρ : List Addr} {H : Hp} {d : D} {vs : List V} (r : Reps K ρ H [d] vs) : ∃ v, vs = [v] ∧ Rep K ρ H d v := by
  obtain ⟨v, r', rfl, h1, h2⟩ := r
  rw [show r' = [] from h2]
  exact ⟨v, rfl, h1⟩
theorem Reps.inv2 {K : PySem.W.Frag} {ρ : List Addr} {H : Hp} {d e : D} {vs : List V} (r : Reps K ρ H [d, e] vs) : ∃ v u, vs = [v, u] ∧ Rep K ρ H d v ∧ Rep K ρ H e u := by
  obtain ⟨v, r', rfl, h1, h2⟩ := r
  obtain ⟨u, rfl, h3⟩ := Reps.inv1 h2
  exact ⟨v, u, rfl, h1, h3⟩
theorem ok_abs {K : PySem.W.Frag} : CaOk K (fun xs H Q => ∃ i, xs = [.int i] ∧ Q (.int (if i < 0 then -i else i)) H) fAbs := by
  intro W σ ρ H L Q xs vs A r h
  unfold fAbs at h
  split at h
  · obtain ⟨v, rfl, r1⟩ := r.inv1
    exact ⟨_, by rw [show v = .int _ from r1], h.mk A rfl⟩
  · exact h.elim
@[simp] def f2Int (g : Int → Int → Int) (xs : List D) (L : Lh) : R3 D := match xs with
  | [.int i, .int j] => .val (.int (g i j)) L
  | _ => .stuck
theorem ok_2int {K : PySem.W.Frag} {g : Int → Int → Int} : CaOk K (fun xs H Q => ∃ i j, xs = [.int i, .int j] ∧ Q (.int (g i j)) H) (f2Int g) := by
  intro W σ ρ H L Q xs vs A r h
  unfold f2Int at h
  split at h
  · obtain ⟨v, u, rfl, r1, r2⟩ := r.inv2
    exact ⟨_, _, by rw [show v = .int _ from r1, show u = .int _ from r2], h.mk A rfl⟩
  · exact h.elim
@[simp] def fMax2 (xs : List D) (L : Lh) : R3 D := (f2Int fun i j => if j > i then j else i) xs L
@[simp] def fMin2 (xs : List D) (L : Lh) : R3 D := (f2Int fun i j => if j < i then j else i) xs L
theorem ok_max2 {K : PySem.W.Frag} : CaOk K (fun xs H Q => ∃ i j, xs = [.int i, .int j] ∧ Q (.int (if j > i then j else i)) H) fMax2 := ok_2int
theorem ok_min2 {K : PySem.W.Frag} : CaOk K (fun xs H Q => ∃ i j, xs = [.int i, .int j] ∧ Q (.int (if j < i then j else i)) H) fMin2 := ok_2int
@[simp] def fIntOf (xs : List D) (L : Lh) : R3 D := match xs with
  | [.int i] => .val (.int i) L
  | [.bl k] => .val (.int (if k then 1 else 0)) L
  | _ => .stuck
theorem ok_intOf {K : PySem.W.Frag} : CaOk K (fun xs H Q => (∃ i, xs = [.int i] ∧ Q (.int i) H) ∨ ∃ k, xs = [.bl k] ∧ Q (.int (if k then 1 else 0)) H) fIntOf := by
  intro W σ ρ H L Q xs vs A r h
  unfold fIntOf at h
  split at h
  · obtain ⟨v, rfl, r1⟩ := r.inv1
    exact .inl ⟨_, by rw [show v = .int _ from r1], h.mk A rfl⟩
  · obtain ⟨v, rfl, r1⟩ := r.inv1
    exact .inr ⟨_, by rw [show v = .bl _ from r1], h.mk A rfl⟩
  · exact h.elim
@[simp] def fLen (xs : List D) (L : Lh) : R3 D := match xs with
  | [x] => (match itemsT x L with
    | some ys => .val (.int ys.length) L
    | none => .stuck)
  | _ => .stuck
theorem ok_len {K : PySem.W.Frag} : CaOk K (fun xs H Q => ∃ p ys, xs = [.ref p] ∧ (SqL K H p ys ∨ SqT K H p ys) ∧ Q (.int ys.length) H) fLen := by
  intro W σ ρ H L Q xs vs A r h
  unfold fLen at h
  split at h
  · split at h
    · rename_i ys hy
      obtain ⟨v, rfl, r1⟩ := r.inv1
      obtain ⟨a, us, rfl, hs, hr⟩ := itemsT_sq A hy r1
      exact ⟨a, us, rfl, hs, by rw [Reps.length hr]; exact h.mk A rfl⟩
    · exact h.elim
  · exact h.elim
@[simp] def fDivmod (xs : List D) (L : Lh) : R3 D := match xs with
  | [.int i, .int j] => if 0 < j ∧ Builtin.divisionGoesByPylong i j = false then .val (.tup [.int (i / j), .int (i % j)]) L else .stuck
  | _ => .stuck
theorem ok_divmod {K : PySem.W.Frag} : CaOk K (fun xs H Q => ∃ i j, xs = [.int i, .int j] ∧ CDivP i j ∧ ∀ p, H p = none → Q (.ref p) (upd H p (.tup [.int (i / j), .int (i % j)]))) fDivmod := by
  intro W σ ρ H L Q xs vs A r h
  unfold fDivmod at h
  split at h
  · split at h
    · rename_i hc
      obtain ⟨v, u, rfl, r1, r2⟩ := r.inv2
      exact ⟨_, _, by rw [show v = .int _ from r1, show u = .int _ from r2], hc, fun p hp => h _ _ ρ (ext_new hp) ⟨p, _, rfl, SqT.of upd_same, _, _, rfl, rfl, _, _, rfl, rfl, rfl⟩ (A.new hp)⟩
    · exact h.elim
  · exact h.elim
@[simp] def fList (xs : List D) (L : Lh) : R3 D := match xs with
  | [x] => (match itemsT x L with
    | some ys => .val (.loc L.length) (L ++ [.lst ys])
    | none => .stuck)
  | _ => .stuck
theorem ok_list {K : PySem.W.Frag} : CaOk K (fun xs H Q => ∃ p ys, xs = [.ref p] ∧ (SqL K H p ys ∨ SqT K H p ys) ∧ ∀ l, H l = none → Q (.ref l) (upd H l (.lst ys))) fList := by
  intro W σ ρ H L Q xs vs A r h
  unfold fList at h
  split at h
  · split at h
    · rename_i ys hy
      obtain ⟨v, rfl, r1⟩ := r.inv1
      obtain ⟨a, us, rfl, hs, hr⟩ := itemsT_sq A hy r1
      exact ⟨a, us, rfl, hs, hold_new h A hr⟩
    · exact h.elim
  · exact h.elim
@[simp] def fTuple (xs : List D) (L : Lh) : R3 D := match xs with
  | [.tup ys] => .val (.tup ys) L
  | [x] => (match items x L with
    | some ys => .val (.tup ys) L
    | none => .stuck)
  | _ => .stuck
theorem ok_tuple {K : PySem.W.Frag} : CaOk K (fun xs H Q => ∃ p ys, xs = [.ref p] ∧ ((SqL K H p ys ∧ ∀ l, H l = none → Q (.ref l) (upd H l (.tup ys))) ∨ (SqT K H p ys ∧ Q (.ref p) H))) fTuple := by
  intro W σ ρ H L Q xs vs A r h
  unfold fTuple at h
  split at h
  · obtain ⟨v, rfl, r1⟩ := r.inv1
    obtain ⟨a, us, rfl, hs, hr⟩ := id r1
    exact ⟨a, us, rfl, .inr ⟨hs, h.mk A r1⟩⟩
  · split at h
    · rename_i ys hy
      obtain ⟨v, rfl, r1⟩ := r.inv1
      obtain ⟨a, us, rfl, hs, hr⟩ := items_sq A hy r1
      exact ⟨a, us, rfl, .inl ⟨hs, fun l hl => h _ _ ρ (ext_new hl) ⟨l, us, rfl, SqT.of upd_same, Reps.mono (ext_new hl) _ hr⟩ (A.new hl)⟩⟩
    · exact h.elim
  · exact h.elim
@[simp] def fSum (xs : List D) (L : Lh) : R3 D := match xs with
  | [x] => (match (items x L).bind intsD with
    | some ns => .val (.int ns.sum) L
    | none => .stuck)
  | _ => .stuck
theorem ok_sum {K : PySem.W.Frag} : CaOk K (rSum K) fSum := by
  intro W σ ρ H L Q xs vs A r h
  unfold fSum at h
  split at h
  · split at h
    · rename_i ns hn
      obtain ⟨v, rfl, r1⟩ := r.inv1
      rw [Option.bind_eq_some_iff] at hn
      obtain ⟨ys, hy, hi⟩ := hn
      obtain ⟨a, us, rfl, hs, hr⟩ := items_sq A hy r1
      have e := ints_v hi hr
      subst e
      exact ⟨a, ns, rfl, hs, h.mk A rfl⟩
    · exact h.elim
  · exact h.elim
@[simp] def fBls (g : List Bool → Bool) (xs : List D) (L : Lh) : R3 D := match xs with
  | [x] => (match (items x L).bind blsD with
    | some ns => .val (.bl (g ns)) L
    | none => .stuck)
  | _ => .stuck
@[simp] def fAll (xs : List D) (L : Lh) : R3 D := (fBls fun bs => bs.all id) xs L
@[simp] def fAny (xs : List D) (L : Lh) : R3 D := (fBls fun bs => bs.any id) xs L
theorem ok_all {K : PySem.W.Frag} : CaOk K (rAll K) fAll := by
  intro W σ ρ H L Q xs vs A r h
  unfold fAll fBls at h
  split at h
  · split at h
    · rename_i ns hn
      obtain ⟨v, rfl, r1⟩ := r.inv1
      rw [Option.bind_eq_some_iff] at hn
      obtain ⟨ys, hy, hi⟩ := hn
      obtain ⟨a, us, rfl, hs, hr⟩ := items_sq A hy r1
      have e := bls_v hi hr
      subst e
      exact ⟨a, ns, rfl, hs, h.mk A rfl⟩
    · exact h.elim
  · exact h.elim
theorem ok_any {K : PySem.W.Frag} : CaOk K (rAny K) fAny := by
  intro W σ ρ H L Q xs vs A r h
  unfold fAny fBls at h
  split at h
  · split at h
    · rename_i ns hn
      obtain ⟨v, rfl, r1⟩ := r.inv1
      rw [Option.bind_eq_some_iff] at hn
      obtain ⟨ys, hy, hi⟩ := hn
      obtain ⟨a, us, rfl, hs, hr⟩ := items_sq A hy r1
      have e := bls_v hi hr
      subst e
      exact ⟨a, ns, rfl, hs, h.mk A rfl⟩
    · exact h.elim
  · exact h.elim
/-! isinstance with a built-in type -/
def tyName (x : D) (L : Lh) : Option String := match x with
  | .non => some "NoneType"
  | .bl _ => some "bool"
  | .int _ => some "int"
  | .str _ => some "str"
  | .tup _ => some "tuple"
  | .rol _ => some "list"
  | .loc n => (match L[n]? with
    | some (.lst _) => some "list"
    | _ => none)
  | .val _ => none
@[simp] theorem tyName_non {L : Lh} : tyName .non L = some "NoneType" := rfl
@[simp] theorem tyName_bl {b : Bool} {L : Lh} : tyName (.bl b) L = some "bool" := rfl
@[simp] theorem tyName_int {i : Int} {L : Lh} : tyName (.int i) L = some "int" := rfl
@[simp] theorem tyName_str {x : Str} {L : Lh} : tyName (.str x) L = some "str" := rfl
@[simp] theorem tyName_tup {xs : List D} {L : Lh} : tyName (.tup xs) L = some "tuple" := rfl
@[simp] theorem tyName_rol {xs : List D} {L : Lh} : tyName (.rol xs) L = some "list" := rfl
theorem tyName_loc {n : Nat} {xs : List D} {L : Lh} (h : L[n]? = some (.lst xs)) : tyName (.loc n) L = some "list" := by unfold tyName; simp only [h]
theorem tyName_ok {K : PySem.W.Frag} {ρ : List Addr} {H : Hp} {L : Lh} (A : Ab K ρ H L) {x : D} {v : V} {n : String} (h : tyName x L = some n) (r : Rep K ρ H x v) : TyX K H v (.type n) := by
  cases x with
  | non => cases h; rw [show v = .non from r]; exact .base .non
  | bl b => cases h; rw [show v = .bl b from r]; exact .base (.bl b)
  | int i => cases h; rw [show v = .int i from r]; exact .base (.int i)
  | str x => cases h; rw [show v = .str x from r]; exact .base (.str x)
  | tup xs =>
    cases h
    obtain ⟨a, vs, rfl, (h1 | ⟨o, h1⟩) | ⟨o, its, m, h1, h2, _⟩, _⟩ := r
    · exact .base (.tup h1)
    · exact .fTuple h1
    · exact .kTuple h1 h2
  | rol xs =>
    cases h
    obtain ⟨a, vs, rfl, ⟨o, h1⟩ | ⟨o, its, m, h1, h2, _⟩, _⟩ := r
    · exact .base (.frz h1)
    · exact .kList h1 h2
  | loc n =>
    simp only [tyName] at h
    split at h
    · rename_i xs hx
      cases h
      obtain ⟨a, vs, rfl, _, hv, _⟩ := A.at hx r
      exact .base (.lst hv)
    · cases h
  | val _ => cases h
@[simp] def fIsi (xs : List D) (L : Lh) : R3 D := match xs with
  | [x, .val (.ty T)] => (match (tyName x L).bind fun n => kitB n T with
    | some b => .val (.bl b) L
    | none => .stuck)
  | _ => .stuck
theorem ok_isi {K : PySem.W.Frag} : CaOk K (rIsi K) fIsi := by
  intro W σ ρ H L Q xs vs A r h
  unfold fIsi at h
  split at h
  · rename_i x T
    split at h
    · rename_i b hb
      obtain ⟨v, u, rfl, r1, r2⟩ := r.inv2
      rw [Option.bind_eq_some_iff] at hb
      obtain ⟨n, hn, hk⟩ := hb
      rw [show u = .ty T from r2]
      exact ⟨v, .ty T, .type n, .type T, b, rfl, .ty T, tyName_ok A hn r1, kit_ty hk, h.mk A rfl⟩
    · exact h.elim
  · exact h.elim
theorem e3_ty {X : Cx} {W : WX} {pos : Pos} {x : Str} {T : String} (hm : X.mg x = none) (hg : Gl X x := by rfl) (hv : bootBuiltins x = some (.type T) := by decide +kernel) (hn : x ≠ "__name__" := by decide) (hd : (x == ("__debug__" : Str)) = false := by decide) : PE3 X W (.Name x pos) (eC (.val (.ty T))) :=
  ⟨_, pe_bltn (v := .ty T) hg hm hv rfl hn hd, fun σ H ρ Γ L Q E A h => h.mk A rfl⟩
/-! ## methods -/
def onL (L : Lh) (x : D) (k : Nat → List D → R3 D) : R3 D := match x with
  | .loc n => (match L[n]? with
    | some (.lst xs) => k n xs
    | _ => .stuck)
  | _ => .stuck
theorem onL_hold {K : PySem.W.Frag} {W : WX} {σ : L2.St} {ρ : List Addr} {H : Hp} {L : Lh} {Q : VK} {x : D} {k : Nat → List D → R3 D} (h : Hold K W σ ρ H (Rep K) Q (onL L x k)) : ∃ n xs, x = .loc n ∧ L[n]? = some (.lst xs) ∧ Hold K W σ ρ H (Rep K) Q (k n xs) := by
  unfold onL at h
  split at h
  · split at h
    · exact ⟨_, _, rfl, by assumption, h⟩
    · exact h.elim
  · exact h.elim
def mAppend : D → List D → Lh → R3 D := fun x as L => onL L x fun n xs => match as with
  | [d] => if xs.length ≤ 100000 then .val .non (L.set n (.lst (xs ++ [d]))) else .stuck
  | _ => .stuck
theorem ok_append {K : PySem.W.Frag} : MtOk K "list" rAppend mAppend := by
  intro W σ ρ H L Q x xs vx vs A rx rs h
  obtain ⟨n, ys, rfl, hy, h⟩ := onL_hold h
  obtain ⟨a, us, rfl, ha, hv, hr⟩ := A.at hy rx
  split at h
  · split at h
    · rename_i hl
      obtain ⟨v, rfl, r1⟩ := rs.inv1
      exact ⟨a, us, v, rfl, rfl, hv, by rw [Reps.length hr]; exact size_lt hl, h _ _ ρ (ext_set hv) rfl (A.setl hy ha (hr.append (Reps.one r1)))⟩
    · exact h.elim
  · exact h.elim
def mExtend : D → List D → Lh → R3 D := fun x as L => onL L x fun n xs => match as with
  | [.loc m] => (match L[m]? with
    | some (.lst ys) => if xs.length + ys.length ≤ 100000 then .val .non (L.set n (.lst (xs ++ ys))) else .stuck
    | _ => .stuck)
  | _ => .stuck
theorem ok_extend {K : PySem.W.Frag} : MtOk K "list" rExtend mExtend := by
  intro W σ ρ H L Q x xs vx vs A rx rs h
  obtain ⟨n, ys, rfl, hy, h⟩ := onL_hold h
  obtain ⟨a, us, rfl, ha, hv, hr⟩ := A.at hy rx
  split at h
  · split at h
    · rename_i zs hz
      split at h
      · rename_i hl
        obtain ⟨v, rfl, r1⟩ := rs.inv1
        obtain ⟨b, ws, rfl, hb, hw, hq⟩ := A.at hz r1
        exact ⟨a, b, us, ws, rfl, rfl, hv, hw, by rw [Reps.length hr, Reps.length hq]; exact size_le hl, h _ _ ρ (ext_set hv) rfl (A.setl hy ha (hr.append hq))⟩
      · exact h.elim
    · exact h.elim
  · exact h.elim
def mInsert : D → List D → Lh → R3 D := fun x as L => onL L x fun n xs => match as with
  | [.int i, d] => if xs.length ≤ 100000 ∧ 0 ≤ i ∧ i ≤ 100000 then .val .non (L.set n (.lst (xs.take i.toNat ++ [d] ++ xs.drop i.toNat))) else .stuck
  | _ => .stuck
theorem ok_insert {K : PySem.W.Frag} : MtOk K "list" (fun x vs H Q => ∃ (l : Addr) (xs : List V) (i : Int) (y : V), x = .ref l ∧ vs = [.int i, y] ∧ H l = some (.lst xs) ∧ xs.length < sizeLine ∧ 0 ≤ i ∧ i < 2 ^ 63 ∧
    Q .non (upd H l (.lst (xs.take i.toNat ++ [y] ++ xs.drop i.toNat)))) mInsert := by
  intro W σ ρ H L Q x xs vx vs A rx rs h
  obtain ⟨n, ys, rfl, hy, h⟩ := onL_hold h
  obtain ⟨a, us, rfl, ha, hv, hr⟩ := A.at hy rx
  split at h
  · rename_i i d _
    split at h
    · rename_i hl
      obtain ⟨v, u, rfl, r1, r2⟩ := rs.inv2
      exact ⟨a, us, i, u, rfl, by rw [show v = .int i from r1], hv, by rw [Reps.length hr]; exact size_lt hl.1, hl.2.1, by omega, h _ _ ρ (ext_set hv) rfl (A.setl hy ha (((hr.take _).append (Reps.one r2)).append (hr.drop _)))⟩
    · exact h.elim
  · exact h.elim
def mPop : D → List D → Lh → R3 D := fun x as L => onL L x fun n xs => match as with
  | [] => (match xs[xs.length - 1]? with
    | some d => .val d (L.set n (.lst xs.dropLast))
    | none => .stuck)
  | _ => .stuck
theorem dropLast_eq {α : Type} (l : List α) : l.dropLast = l.take (l.length - 1) := List.dropLast_eq_take
theorem ok_pop {K : PySem.W.Frag} : MtOk K "list" rPop mPop := by
  intro W σ ρ H L Q x xs vx vs A rx rs h
  obtain ⟨n, ys, rfl, hy, h⟩ := onL_hold h
  obtain ⟨a, us, rfl, ha, hv, hr⟩ := A.at hy rx
  split at h
  · split at h
    · rename_i d hd
      obtain ⟨v, e1, e2⟩ := hr.get hd
      have e : vs = [] := rs
      subst e
      refine ⟨a, us, v, rfl, rfl, hv, by rw [Reps.length hr]; exact e1, h _ _ ρ (ext_set hv) (Rep.mono (ext_set hv) d e2) (A.setl hy ha ?_)⟩
      rw [dropLast_eq, dropLast_eq, Reps.length hr]
      exact hr.take _
    · exact h.elim
  · exact h.elim
def mPopAt : D → List D → Lh → R3 D := fun x as L => onL L x fun n xs => match as with
  | [.int i] => if -100000 ≤ i ∧ i ≤ 100000 then (match seqIndex? i xs.length with
    | some k => (match xs[k]? with
      | some d => .val d (L.set n (.lst (xs.eraseIdx k)))
      | none => .stuck)
    | none => .stuck) else .stuck
  | _ => .stuck
theorem Reps.erase {K : PySem.W.Frag} {ρ : List Addr} {H : Hp} : ∀ {ds : List D} {vs : List V} (k : Nat), Reps K ρ H ds vs → Reps K ρ H (ds.eraseIdx k) (vs.eraseIdx k)
  | [], _, _, h => by rw [show _ = [] from h]; rfl
  | x :: xs, _, 0, ⟨u, r, h1, h2, h3⟩ => by subst h1; exact h3
  | x :: xs, _, i + 1, ⟨u, r, h1, h2, h3⟩ => by subst h1; exact ⟨u, r.eraseIdx i, rfl, h2, Reps.erase i h3⟩
theorem ok_popAt {K : PySem.W.Frag} : MtOk K "list" rPopAt mPopAt := by
  intro W σ ρ H L Q x xs vx vs A rx rs h
  obtain ⟨n, ys, rfl, hy, h⟩ := onL_hold h
  obtain ⟨a, us, rfl, ha, hv, hr⟩ := A.at hy rx
  split at h
  · rename_i i _
    split at h
    · rename_i hb
      split at h
      · rename_i k hk
        split at h
        · rename_i d hd
          obtain ⟨v, e1, e2⟩ := hr.get hd
          obtain ⟨u, rfl, r1⟩ := rs.inv1
          rw [show u = .int i from r1]
          exact ⟨a, us, i, k, v, rfl, rfl, hv, by omega, by omega, by rw [Reps.length hr]; exact hk, e1, h _ _ ρ (ext_set hv) (Rep.mono (ext_set hv) d e2) (A.setl hy ha (hr.erase k))⟩
        · exact h.elim
      · exact h.elim
    · exact h.elim
  · exact h.elim
def mClear : D → List D → Lh → R3 D := fun x as L => onL L x fun n xs => match as with
  | [] => .val .non (L.set n (.lst []))
  | _ => .stuck
theorem ok_clear {K : PySem.W.Frag} : MtOk K "list" rClear mClear := by
  intro W σ ρ H L Q x xs vx vs A rx rs h
  obtain ⟨n, ys, rfl, hy, h⟩ := onL_hold h
  obtain ⟨a, us, rfl, ha, hv, hr⟩ := A.at hy rx
  split at h
  · have e : vs = [] := rs
    subst e
    exact ⟨a, us, rfl, rfl, hv, h _ _ ρ (ext_set hv) rfl (A.setl hy ha rfl)⟩
  · exact h.elim
def mReverse : D → List D → Lh → R3 D := fun x as L => onL L x fun n xs => match as with
  | [] => .val .non (L.set n (.lst xs.reverse))
  | _ => .stuck
theorem ok_reverse {K : PySem.W.Frag} : MtOk K "list" rReverse mReverse := by
  intro W σ ρ H L Q x xs vx vs A rx rs h
  obtain ⟨n, ys, rfl, hy, h⟩ := onL_hold h
  obtain ⟨a, us, rfl, ha, hv, hr⟩ := A.at hy rx
  split at h
  · have e : vs = [] := rs
    subst e
    exact ⟨a, us, rfl, rfl, hv, h _ _ ρ (ext_set hv) rfl (A.setl hy ha hr.rev)⟩
  · exact h.elim
/-! ## iterables -/
def seqI (x : D) (L : Lh) : Option It3 := match x with
  | .rol xs => some ⟨xs, fun _ => True⟩
  | .loc n => (match L[n]? with
    | some (.lst xs) => some ⟨xs, fun L' => L'[n]? = some (.lst xs)⟩
    | _ => none)
  | _ => none
def tupI (x : D) : Option It3 := match x with
  | .tup xs => some ⟨xs, fun _ => True⟩
  | _ => none
@[simp] theorem seqI_rol {xs : List D} {L : Lh} : seqI (.rol xs) L = some ⟨xs, fun _ => True⟩ := rfl
@[simp] theorem seqI_tup {xs : List D} {L : Lh} : seqI (.tup xs) L = none := rfl
theorem seqI_loc {n : Nat} {xs : List D} {L : Lh} (h : L[n]? = some (.lst xs)) : seqI (.loc n) L = some ⟨xs, fun L' => L'[n]? = some (.lst xs)⟩ := by unfold seqI; simp only [h]
@[simp] theorem tupI_tup {xs : List D} : tupI (.tup xs) = some ⟨xs, fun _ => True⟩ := rfl
@[simp] theorem tupI_rol {xs : List D} : tupI (.rol xs) = none := rfl
@[simp] theorem tupI_loc {n : Nat} : tupI (.loc n) = none := rfl
section
variable {K : PySem.W.Frag} {ρ : List Addr} {H : Hp} {L : Lh}
theorem seqI_ok (A : Ab K ρ H L) {x : D} {v : V} {it : It3} (h : seqI x L = some it) (r : Rep K ρ H x v) : ∃ a, v = .ref a ∧ (∃ vs, SqL K H a vs ∧ vs.length = it.xs.length) ∧
    ∀ ρ' H' L', Ext ρ H ρ' H' → Ab K ρ' H' L' → it.chk L' → ∃ vs, SqL K H' a vs ∧ Reps K ρ' H' it.xs vs := by
  unfold seqI at h
  split at h
  · cases h
    obtain ⟨a, vs, rfl, h1, h2⟩ := r
    exact ⟨a, rfl, ⟨vs, h1.sq, Reps.length h2⟩, fun ρ' H' L' e A' _ => ⟨vs, (e.roL h1).sq, Reps.mono e _ h2⟩⟩
  · split at h
    · rename_i xs hx
      cases h
      obtain ⟨a, vs, rfl, ha, hv, hr⟩ := A.at hx r
      refine ⟨a, rfl, ⟨vs, SqL.of hv, Reps.length hr⟩, fun ρ' H' L' e A' hc => ?_⟩
      obtain ⟨a', us, e1, e2, e3, e4⟩ := A'.at hc (Rep.mono e _ r)
      cases e1
      exact ⟨us, SqL.of e3, e4⟩
    · cases h
  · cases h
theorem tupI_ok {x : D} {v : V} {it : It3} (h : tupI x = some it) (r : Rep K ρ H x v) : ∃ a, v = .ref a ∧ (∃ vs, SqT K H a vs ∧ vs.length = it.xs.length) ∧
    ∀ ρ' H' L', Ext ρ H ρ' H' → Ab K ρ' H' L' → it.chk L' → ∃ vs, SqT K H' a vs ∧ Reps K ρ' H' it.xs vs := by
  unfold tupI at h
  split at h
  · cases h
    obtain ⟨a, vs, rfl, h1, h2⟩ := r
    exact ⟨a, rfl, ⟨vs, h1, Reps.length h2⟩, fun ρ' H' L' e A' _ => ⟨vs, e.sqT h1, Reps.mono e _ h2⟩⟩
  · cases h
end
/-- what a sequence at a gives, turn by turn; S tells what is there -/
theorem itok_seq {K : PySem.W.Frag} {ρ : List Addr} {H : Hp} {J : L2.It} {it : It3} {S : Hp → List V → Prop} (hs : ∀ ρ' H' L', Ext ρ H ρ' H' → Ab K ρ' H' L' → it.chk L' → ∃ vs, S H' vs ∧ Reps K ρ' H' it.xs vs)
    (g : ∀ i H vs, i < it.xs.length → vs.length = it.xs.length → S H vs → J.go i H) (st : ∀ H vs, vs.length = it.xs.length → S H vs → J.stop it.xs.length H) (y : ∀ i H x H', i < it.xs.length → J.yld i H x H' → H' = H ∧ ∀ vs, vs.length = it.xs.length → S H vs → vs[i]? = some x) : ItOk K ρ H J it := by
  refine ⟨fun H' => ∃ vs, S H' vs ∧ vs.length = it.xs.length, fun i H x H' => H' = H ∧ ∀ vs, vs.length = it.xs.length → S H vs → vs[i]? = some x, ⟨fun i H hi ⟨vs, h1, h2⟩ => g i H vs hi h2 h1, fun H ⟨vs, h1, h2⟩ => st H vs h2 h1, fun i H x H' hi _ hy => y i H x H' hi hy⟩, fun ρ' H' L' e A c => ?_, fun i ρ' H' L' x H'' hi e A c hy => ?_⟩
  · obtain ⟨vs, h1, h2⟩ := hs ρ' H' L' e A c
    exact ⟨vs, h1, Reps.length h2⟩
  · obtain ⟨vs, h1, h2⟩ := hs ρ' H' L' e A c
    obtain ⟨rfl, hx⟩ := hy
    obtain ⟨d, e1, e2⟩ := h2.getV (hx vs (Reps.length h2) h1)
    exact ⟨d, e1, Ext.refl _ _, e2, A⟩
/-- .. the items in new pairs -/
theorem itok_pair {K : PySem.W.Frag} {ρ : List Addr} {H : Hp} {J : L2.It} {n : Nat} {xs ys : Nat → Option D} {zs : List D} {chk : Lh → Prop} {S : Hp → (Nat → Option V) → (Nat → Option V) → Prop} (hz : zs.length = n) (hzi : ∀ i x y, i < n → xs i = some x → ys i = some y → zs[i]? = some (.tup [x, y]))
    (hs : ∀ ρ' H' L', Ext ρ H ρ' H' → Ab K ρ' H' L' → chk L' → ∃ vs us, S H' vs us ∧ (∀ i v, i < n → vs i = some v → ∃ d, xs i = some d ∧ Rep K ρ' H' d v) ∧ (∀ i v, i < n → us i = some v → ∃ d, ys i = some d ∧ Rep K ρ' H' d v))
    (g : ∀ i H vs us, i < n → S H vs us → J.go i H) (st : ∀ H vs us, S H vs us → J.stop n H)
    (y : ∀ i H v H', J.yld i H v H' → ∃ T x y, v = .ref T ∧ H T = none ∧ H' = upd H T (.tup [x, y]) ∧ ∀ vs us, S H vs us → vs i = some x ∧ us i = some y) : ItOk K ρ H J ⟨zs, chk⟩ := by
  subst hz
  refine ⟨fun H' => ∃ vs us, S H' vs us, fun i H v H' => ∃ T x y, v = .ref T ∧ H T = none ∧ H' = upd H T (.tup [x, y]) ∧ ∀ vs us, S H vs us → vs i = some x ∧ us i = some y, ⟨fun i H hi ⟨vs, us, h1⟩ => g i H vs us hi h1, fun H ⟨vs, us, h1⟩ => st H vs us h1, fun i H x H' _ _ hy => y i H x H' hy⟩, fun ρ' H' L' e A c => ?_, fun i ρ' H' L' x H'' hi e A c hy => ?_⟩
  · obtain ⟨vs, us, h1, _⟩ := hs ρ' H' L' e A c
    exact ⟨vs, us, h1⟩
  · obtain ⟨vs, us, h1, h2, h3⟩ := hs ρ' H' L' e A c
    obtain ⟨T, x', y', rfl, hT, rfl, hxy⟩ := hy
    obtain ⟨e1, e2⟩ := hxy vs us h1
    obtain ⟨d, q1, q2⟩ := h2 i x' hi e1
    obtain ⟨d', q3, q4⟩ := h3 i y' hi e2
    have ex : Ext ρ' H' ρ' (upd H' T (.tup [x', y'])) := ext_new hT
    exact ⟨_, hzi i d d' hi q1 q3, ex, ⟨T, _, rfl, SqT.of upd_same, _, _, rfl, Rep.mono ex d q2, _, _, rfl, Rep.mono ex d' q4, rfl⟩, A.new hT⟩
section
variable {X : Cx} {W : WX} {pos : Pos} {tg : Expr}
@[simp] def iL (f : E3) (Γ : G3) (L : Lh) : R3 It3 := (f Γ L).bind fun x L1 => match seqI x L1 with
  | some it => .val it L1
  | none => .stuck
@[simp] def iT (f : E3) (Γ : G3) (L : Lh) : R3 It3 := (f Γ L).bind fun x L1 => match tupI x with
  | some it => .val it L1
  | none => .stuck
theorem itok_list {K : PySem.W.Frag} {ρ : List Addr} {H : Hp} {a : Addr} {it : It3} (hs : ∀ ρ' H' L', Ext ρ H ρ' H' → Ab K ρ' H' L' → it.chk L' → ∃ vs, SqL K H' a vs ∧ Reps K ρ' H' it.xs vs) : ItOk K ρ H (Itl K a) it :=
  itok_seq (S := fun H vs => SqL K H a vs) hs (fun i H vs hi hl h => ⟨vs, vs[i]'(by omega), h, by simp [show i < vs.length by omega]⟩) (fun H vs hl h => ⟨vs, h, by omega⟩) fun i H x H' _ hy => ⟨hy.1, fun vs _ h => hy.2 vs h⟩
theorem itok_tup {K : PySem.W.Frag} {ρ : List Addr} {H : Hp} {a : Addr} {it : It3} (hs : ∀ ρ' H' L', Ext ρ H ρ' H' → Ab K ρ' H' L' → it.chk L' → ∃ vs, SqT K H' a vs ∧ Reps K ρ' H' it.xs vs) : ItOk K ρ H (Itt K a) it :=
  itok_seq (S := fun H vs => SqT K H a vs) hs (fun i H vs hi hl h => ⟨vs, vs[i]'(by omega), h, by simp [show i < vs.length by omega]⟩) (fun H vs hl h => ⟨vs, h, by omega⟩) fun i H x H' _ hy => ⟨hy.1, fun vs _ h => hy.2 vs h⟩
theorem i3_list {e : Expr} {f : E3} (he : PE3 X W e f) : PI3 X W tg e (iL f) := by
  obtain ⟨te, p, q⟩ := he
  refine ⟨_, pi_list p, fun σ H ρ Γ L R E A h => ?_⟩
  refine q σ H ρ Γ L _ E A (hbind (ihold_eq h) fun x L1 vx H1 ρ1 e1 r1 A1 h1 => ?_)
  split at h1
  · rename_i it hit
    obtain ⟨a, rfl, ⟨vs, h2, _⟩, h3⟩ := seqI_ok A1 hit r1
    exact ⟨a, rfl, ⟨vs, h2⟩, h1.mk A1 (itok_list h3)⟩
  · exact h1.elim
theorem i3_tup {e : Expr} {f : E3} (he : PE3 X W e f) : PI3 X W tg e (iT f) := by
  obtain ⟨te, p, q⟩ := he
  refine ⟨_, pi_tup p, fun σ H ρ Γ L R E A h => ?_⟩
  refine q σ H ρ Γ L _ E A (hbind (ihold_eq h) fun x L1 vx H1 ρ1 e1 r1 A1 h1 => ?_)
  split at h1
  · rename_i it hit
    obtain ⟨a, rfl, ⟨vs, h2, _⟩, h3⟩ := tupI_ok hit r1
    exact ⟨a, rfl, ⟨vs, h2⟩, h1.mk A1 (itok_tup h3)⟩
  · exact h1.elim
/-- a list or a tuple -/
@[simp] def iLT (f : E3) (Γ : G3) (L : Lh) : R3 It3 := (f Γ L).bind fun x L1 => match tupI x with
  | some it => .val it L1
  | none => (match seqI x L1 with
    | some it => .val it L1
    | none => .stuck)
def iListOrTup (K : PySem.W.Frag) (tl : TE) : TI := fun σ H R => tl σ H fun x H1 => ∃ a, x = .ref a ∧ (((∃ xs, SqL K H1 a xs) ∧ R (Itl K a) H1) ∨ ((∃ xs, SqT K H1 a xs) ∧ R (Itt K a) H1))
theorem pi_lt {l : Expr} {tl : TE} (hl : PE X l tl) : PI X tg l (iListOrTup X.K tl) := by
  refine ⟨fun pins s σ H R I h => ?_⟩
  refine thn (hl.run pins s σ H _ I h) fun v s1 ⟨x, H1, I1, r1, a, e, q⟩ => ?_
  subst e
  cases r1
  rcases q with ⟨⟨xs, hq⟩, q⟩ | ⟨⟨xs, hq⟩, q⟩
  · obtain ⟨its, rv, p, hz⟩ := I1.list hq
    refine wpAny_pyIter_list p.isList ⟨s1.heap.objs.size, [s1.heap.objs.size], _, _, H1, rfl, I1.kept (t' := s1.toks) fun b o e => Heap.get?_push_of_some _ e, turn_list a _, ⟨_, Heap.get?_push_size _ rfl, rfl, rfl⟩, fun b hb => ?_, q⟩
    obtain rfl : b = s1.heap.objs.size := by simpa using hb
    exact I1.fpOk (Nat.le_refl _) (I1.hok.fresh (Nat.le_refl _))
  · obtain ⟨its, rv, p, hz⟩ := I1.tuple hq
    refine wpAny_pyIter_tuple (show s1.heap.IsTuple a its.toArray from p) ⟨s1.heap.objs.size, [s1.heap.objs.size], _, _, H1, rfl, I1.kept (t' := s1.toks) fun b o e => Heap.get?_push_of_some _ e, turn_tuple a _, ⟨_, Heap.get?_push_size _ rfl, rfl, rfl⟩, fun b hb => ?_, q⟩
    obtain rfl : b = s1.heap.objs.size := by simpa using hb
    exact I1.fpOk (Nat.le_refl _) (I1.hok.fresh (Nat.le_refl _))
theorem i3_lt {e : Expr} {f : E3} (he : PE3 X W e f) : PI3 X W tg e (iLT f) := by
  obtain ⟨te, p, q⟩ := he
  refine ⟨_, pi_lt p, fun σ H ρ Γ L R E A h => ?_⟩
  refine q σ H ρ Γ L _ E A (hbind (ihold_eq h) fun x L1 vx H1 ρ1 e1 r1 A1 h1 => ?_)
  split at h1
  · rename_i it hit
    obtain ⟨a, rfl, ⟨vs, h2, _⟩, h3⟩ := tupI_ok hit r1
    exact ⟨a, rfl, .inr ⟨⟨vs, h2⟩, h1.mk A1 (itok_tup h3)⟩⟩
  · split at h1
    · rename_i it hit
      obtain ⟨a, rfl, ⟨vs, h2, _⟩, h3⟩ := seqI_ok A1 hit r1
      exact ⟨a, rfl, .inl ⟨⟨vs, h2⟩, h1.mk A1 (itok_list h3)⟩⟩
    · exact h1.elim
/-! ranges -/
def rngD (lo : Int) (n : Nat) : List D := (List.range n).map fun (i : Nat) => D.int (lo + i)
theorem itok_range {K : PySem.W.Frag} {ρ : List Addr} {H : Hp} {lo : Int} {n : Nat} : ItOk K ρ H (Itr lo n) ⟨rngD lo n, fun _ => True⟩ := by
  have hn : (rngD lo n).length = n := by simp [rngD]
  refine ⟨_, _, (show Walk (Itr lo n) (rngD lo n).length (fun _ => True) (YFn fun i => .int (lo + i)) by rw [hn]; exact walk_range), fun _ _ _ _ _ _ => trivial, fun i ρ' H' L' x H'' hi e A _ hy => ?_⟩
  obtain ⟨rfl, rfl⟩ := hy
  refine ⟨.int (lo + i), ?_, Ext.refl _ _, rfl, A⟩
  have hi' : i < n := by rw [hn] at hi; exact hi
  simp [rngD, hi']
@[simp] def iR1 (g : A3) (Γ : G3) (L : Lh) : R3 It3 := (g Γ L).bind fun as L1 => match as with
  | [.int j] => if -1000000 ≤ j ∧ j ≤ 1000000 then .val ⟨rngD 0 j.toNat, fun _ => True⟩ L1 else .stuck
  | _ => .stuck
theorem i3_range1 {a : Expr} {g : A3} {p : Pos} (hm : X.mg "range" = none) (ha : PA3 X W [a] g) (hg : Gl X "range" := by rfl) (hs : starEach [a] X.env = [(false, eval a X.env)] := by rfl) : PI3 X W tg (.Call (.Name "range" p) [a] [] pos) (iR1 g) := by
  obtain ⟨ta, pa, qa⟩ := ha
  refine ⟨_, pi_range1 hg hm pa hs, fun σ H ρ Γ L R E A h => ?_⟩
  refine qa σ H ρ Γ L _ E A (hbind (ihold_eq h) fun xs L1 vs H1 ρ1 e1 r1 A1 h1 => ?_)
  split at h1
  · split at h1
    · rename_i hb
      obtain ⟨v, rfl, r2⟩ := r1.inv1
      exact ⟨_, by rw [show v = .int _ from r2], by omega, by omega, h1.mk A1 itok_range⟩
    · exact h1.elim
  · exact h1.elim
@[simp] def iR2 (g : A3) (Γ : G3) (L : Lh) : R3 It3 := (g Γ L).bind fun as L1 => match as with
  | [.int i, .int j] => if (-1000000 ≤ i ∧ i ≤ 1000000) ∧ -1000000 ≤ j ∧ j ≤ 1000000 then .val ⟨rngD i (j - i).toNat, fun _ => True⟩ L1 else .stuck
  | _ => .stuck
theorem i3_range2 {a b : Expr} {g : A3} {p : Pos} (hm : X.mg "range" = none) (ha : PA3 X W [a, b] g) (hg : Gl X "range" := by rfl) (hs : starEach [a, b] X.env = [(false, eval a X.env), (false, eval b X.env)] := by rfl) (hs2 : starEach [b] X.env = [(false, eval b X.env)] := by rfl) :
    PI3 X W tg (.Call (.Name "range" p) [a, b] [] pos) (iR2 g) := by
  obtain ⟨ta, pa, qa⟩ := ha
  refine ⟨_, pi_range2 hg hm pa hs hs2, fun σ H ρ Γ L R E A h => ?_⟩
  refine qa σ H ρ Γ L _ E A (hbind (ihold_eq h) fun xs L1 vs H1 ρ1 e1 r1 A1 h1 => ?_)
  split at h1
  · split at h1
    · rename_i hb
      obtain ⟨v, u, rfl, r2, r3⟩ := r1.inv2
      exact ⟨_, _, by rw [show v = .int _ from r2, show u = .int _ from r3], by omega, h1.mk A1 itok_range⟩
    · exact h1.elim
  · exact h1.elim
/-! reversed -/
@[simp] def iRev (f : E3) (Γ : G3) (L : Lh) : R3 It3 := (f Γ L).bind fun x L1 => match tupI x with
  | some it => .val ⟨it.xs.reverse, it.chk⟩ L1
  | none => (match seqI x L1 with
    | some it => .val ⟨it.xs.reverse, it.chk⟩ L1
    | none => .stuck)
theorem rev_at {α : Type} {vs : List α} {n i : Nat} {x : α} (hl : vs.length = n) (hi : i < n) (h : vs[n - 1 - i]? = some x) : vs.reverse[i]? = some x := by
  rw [List.getElem?_reverse (by omega), hl]; exact h
theorem itok_revL {K : PySem.W.Frag} {ρ : List Addr} {H : Hp} {a : Addr} {n : Nat} {it : It3} (hn : it.xs.length = n) (hs : ∀ ρ' H' L', Ext ρ H ρ' H' → Ab K ρ' H' L' → it.chk L' → ∃ vs, SqL K H' a vs ∧ Reps K ρ' H' it.xs vs) : ItOk K ρ H (Itv K a n) ⟨it.xs.reverse, it.chk⟩ := by
  subst hn
  refine itok_seq (S := fun H ws => ∃ vs, SqL K H a vs ∧ ws = vs.reverse) (fun ρ' H' L' e A c => ?_) (fun i H ws hi hw h => ?_) (fun H ws hw h => ?_) fun i H x H' hi hy => ⟨hy.1, fun ws hw h => ?_⟩
  · obtain ⟨us, q1, q2⟩ := hs ρ' H' L' e A c
    exact ⟨us.reverse, ⟨us, q1, rfl⟩, q2.rev⟩
  · obtain ⟨vs, h, rfl⟩ := h
    simp only [List.length_reverse] at hi hw
    exact ⟨hi, vs, vs[it.xs.length - 1 - i]'(by omega), h, List.getElem?_eq_getElem _⟩
  · show it.xs.length ≤ _
    simp
  · obtain ⟨vs, h, rfl⟩ := h
    simp only [List.length_reverse] at hi hw
    exact rev_at hw hi (hy.2 vs h)
theorem itok_revT {K : PySem.W.Frag} {ρ : List Addr} {H : Hp} {a : Addr} {n : Nat} {it : It3} (hn : it.xs.length = n) (hs : ∀ ρ' H' L', Ext ρ H ρ' H' → Ab K ρ' H' L' → it.chk L' → ∃ vs, SqT K H' a vs ∧ Reps K ρ' H' it.xs vs) : ItOk K ρ H (RT.ItvT K a n) ⟨it.xs.reverse, it.chk⟩ := by
  subst hn
  refine itok_seq (S := fun H ws => ∃ vs, SqT K H a vs ∧ ws = vs.reverse) (fun ρ' H' L' e A c => ?_) (fun i H ws hi hw h => ?_) (fun H ws hw h => ?_) fun i H x H' hi hy => ⟨hy.1, fun ws hw h => ?_⟩
  · obtain ⟨us, q1, q2⟩ := hs ρ' H' L' e A c
    exact ⟨us.reverse, ⟨us, q1, rfl⟩, q2.rev⟩
  · obtain ⟨vs, h, rfl⟩ := h
    simp only [List.length_reverse] at hi hw
    exact ⟨hi, vs, vs[it.xs.length - 1 - i]'(by omega), h, List.getElem?_eq_getElem _⟩
  · show it.xs.length ≤ _
    simp
  · obtain ⟨vs, h, rfl⟩ := h
    simp only [List.length_reverse] at hi hw
    exact rev_at hw hi (hy.2 vs h)
theorem i3_rev {e : Expr} {f : E3} {p : Pos} (hm : X.mg "reversed" = none) (he : PE3 X W e f) (hg : Gl X "reversed" := by rfl) (hs : starEach [e] X.env = (false, eval e X.env) :: starEach [] X.env := by rfl) : PI3 X W tg (.Call (.Name "reversed" p) [e] [] pos) (iRev f) := by
  obtain ⟨te, pe, q⟩ := he
  refine ⟨_, RT.pi_revA hg hm pe hs, fun σ H ρ Γ L R E A h => ?_⟩
  refine q σ H ρ Γ L _ E A (hbind (ihold_eq h) fun x L1 vx H1 ρ1 e1 r1 A1 h1 => ?_)
  split at h1
  · rename_i it hit
    obtain ⟨a, rfl, ⟨vs, h2, hl⟩, h3⟩ := tupI_ok hit r1
    exact ⟨a, vs, rfl, .inr ⟨h2, h1.mk A1 (itok_revT hl.symm h3)⟩⟩
  · split at h1
    · rename_i it hit
      obtain ⟨a, rfl, ⟨vs, h2, hl⟩, h3⟩ := seqI_ok A1 hit r1
      exact ⟨a, vs, rfl, .inl ⟨h2, h1.mk A1 (itok_revL hl.symm h3)⟩⟩
    · exact h1.elim
/-! enumerate, zip of lists -/
def enumD (xs : List D) : List D := xs.zipIdx.map fun p => D.tup [.int (p.2 : Nat), p.1]
theorem enumD_len (xs : List D) : (enumD xs).length = xs.length := by simp [enumD]
theorem enumD_at {xs : List D} {i : Nat} {d : D} (h : xs[i]? = some d) : (enumD xs)[i]? = some (.tup [.int (i : Nat), d]) := by
  simp [enumD, List.getElem?_zipIdx, h]
@[simp] def iEn (f : E3) (Γ : G3) (L : Lh) : R3 It3 := (f Γ L).bind fun x L1 => match seqI x L1 with
  | some it => .val ⟨enumD it.xs, it.chk⟩ L1
  | none => .stuck
theorem itok_enum {K : PySem.W.Frag} {ρ : List Addr} {H : Hp} {a : Addr} {it : It3} (hs : ∀ ρ' H' L', Ext ρ H ρ' H' → Ab K ρ' H' L' → it.chk L' → ∃ vs, SqL K H' a vs ∧ Reps K ρ' H' it.xs vs) : ItOk K ρ H (Ite K a) ⟨enumD it.xs, it.chk⟩ := by
  refine itok_pair (n := it.xs.length) (xs := fun i => some (D.int (i : Nat))) (ys := fun i => it.xs[i]?) (S := fun H vs us => vs = (fun i => some (V.int (i : Nat))) ∧ ∃ ws, SqL K H a ws ∧ ws.length = it.xs.length ∧ us = fun i => ws[i]?) (enumD_len _) (fun i x y hi h1 h2 => ?_) (fun ρ' H' L' e A c => ?_) (fun i H vs us hi h => ?_) (fun H vs us h => ?_) fun i H v H' hy => ?_
  · cases h1
    exact enumD_at h2
  · obtain ⟨ws, q1, q2⟩ := hs ρ' H' L' e A c
    exact ⟨_, _, ⟨rfl, ws, q1, q2.length, rfl⟩, fun i v _ h => ⟨_, rfl, by cases h; rfl⟩, fun i v _ h => q2.getV h⟩
  · obtain ⟨rfl, ws, h1, h2, rfl⟩ := h
    exact ⟨ws, ws[i]'(by omega), h1, List.getElem?_eq_getElem _⟩
  · obtain ⟨rfl, ws, h1, h2, rfl⟩ := h
    exact ⟨ws, h1, by omega⟩
  · obtain ⟨T, x, h1, h2, h3, h4⟩ := hy
    refine ⟨T, _, x, h1, h2, h3, fun vs us h => ?_⟩
    obtain ⟨rfl, ws, q1, q2, rfl⟩ := h
    exact ⟨rfl, h4 ws q1⟩
theorem pa_one {e : Expr} {te : TE} (p : PE X e te) (hs : starEach [e] X.env = [(false, eval e X.env)]) : PA X [e] (tCons te tNil) := pa_cons p pa_nil hs
theorem i3_enum {e : Expr} {f : E3} {p tpos : Pos} {elts : List Expr} {kk : Nat} (hm : X.mg "enumerate" = none) (he : PE3 X W e f) (hg : Gl X "enumerate" := by rfl) (hs : starEach [e] X.env = [(false, eval e X.env)] := by rfl) : PI3 X W (.Tuple elts kk tpos) (.Call (.Name "enumerate" p) [e] [] pos) (iEn f) := by
  obtain ⟨te, pe, q⟩ := he
  refine ⟨_, pi_enum hg hm (pa_one pe hs) hs, fun σ H ρ Γ L R E A h => ?_⟩
  refine q σ H ρ Γ L _ E A (hbind (ihold_eq h) fun x L1 vx H1 ρ1 e1 r1 A1 h1 => ?_)
  split at h1
  · rename_i it hit
    obtain ⟨a, rfl, ⟨vs, h2, hl⟩, h3⟩ := seqI_ok A1 hit r1
    exact ⟨a, vs, rfl, h2, h1.mk A1 (itok_enum h3)⟩
  · exact h1.elim
def zipD (xs ys : List D) : List D := List.zipWith (fun x y => D.tup [x, y]) xs ys
theorem zipD_len (xs ys : List D) : (zipD xs ys).length = min xs.length ys.length := by simp [zipD]
theorem zipD_at {xs ys : List D} {i : Nat} {d e : D} (h : xs[i]? = some d) (h2 : ys[i]? = some e) : (zipD xs ys)[i]? = some (.tup [d, e]) := by
  simp [zipD, List.getElem?_zipWith, h, h2]
@[simp] def iZp (f g : E3) (Γ : G3) (L : Lh) : R3 It3 := (f Γ L).bind fun x L1 => (g Γ L1).bind fun y L2 => match seqI x L2, seqI y L2 with
  | some a, some b => .val ⟨zipD a.xs b.xs, fun L => a.chk L ∧ b.chk L⟩ L2
  | _, _ => (match tupI x, tupI y with
    | some a, some b => .val ⟨zipD a.xs b.xs, fun L => a.chk L ∧ b.chk L⟩ L2
    | _, _ => .stuck)
theorem itok_zip {K : PySem.W.Frag} {ρ : List Addr} {H : Hp} {J : L2.It} {a b : It3} {Sq : Hp → List V → Prop} {Sr : Hp → List V → Prop}
    (hs : ∀ ρ' H' L', Ext ρ H ρ' H' → Ab K ρ' H' L' → a.chk L' → ∃ vs, Sq H' vs ∧ Reps K ρ' H' a.xs vs) (hs2 : ∀ ρ' H' L', Ext ρ H ρ' H' → Ab K ρ' H' L' → b.chk L' → ∃ vs, Sr H' vs ∧ Reps K ρ' H' b.xs vs)
    (g : ∀ i H vs us, i < vs.length → i < us.length → Sq H vs → Sr H us → J.go i H) (st : ∀ i H vs us, (vs.length ≤ i ∨ us.length ≤ i) → Sq H vs → Sr H us → J.stop i H)
    (y : ∀ i H v H', J.yld i H v H' → ∃ T x y, v = .ref T ∧ H T = none ∧ H' = upd H T (.tup [x, y]) ∧ (∀ vs, Sq H vs → vs[i]? = some x) ∧ ∀ us, Sr H us → us[i]? = some y) :
    ItOk K ρ H J ⟨zipD a.xs b.xs, fun L => a.chk L ∧ b.chk L⟩ := by
  refine itok_pair (n := min a.xs.length b.xs.length) (xs := fun i => a.xs[i]?) (ys := fun i => b.xs[i]?) (S := fun H vs us => (∃ ws, Sq H ws ∧ ws.length = a.xs.length ∧ vs = fun i => ws[i]?) ∧ ∃ ws, Sr H ws ∧ ws.length = b.xs.length ∧ us = fun i => ws[i]?) (zipD_len _ _) (fun i x y hi h1 h2 => zipD_at h1 h2) (fun ρ' H' L' e A c => ?_) (fun i H vs us hi h => ?_) (fun H vs us h => ?_) fun i H v H' hy => ?_
  · obtain ⟨ws, q1, q2⟩ := hs ρ' H' L' e A c.1
    obtain ⟨zs, q3, q4⟩ := hs2 ρ' H' L' e A c.2
    exact ⟨_, _, ⟨⟨ws, q1, q2.length, rfl⟩, zs, q3, q4.length, rfl⟩, fun i v _ h => q2.getV h, fun i v _ h => q4.getV h⟩
  · obtain ⟨⟨ws, q1, q2, rfl⟩, zs, q3, q4, rfl⟩ := h
    exact g i H ws zs (by omega) (by omega) q1 q3
  · obtain ⟨⟨ws, q1, q2, rfl⟩, zs, q3, q4, rfl⟩ := h
    exact st _ H ws zs (by omega) q1 q3
  · obtain ⟨T, x, y', h1, h2, h3, h4, h5⟩ := y i H v H' hy
    refine ⟨T, x, y', h1, h2, h3, fun vs us h => ?_⟩
    obtain ⟨⟨ws, q1, q2, rfl⟩, zs, q3, q4, rfl⟩ := h
    exact ⟨h4 ws q1, h5 zs q3⟩
theorem i3_zip {e e2 : Expr} {f g : E3} {p tpos : Pos} {elts : List Expr} {kk : Nat} (hm : X.mg "zip" = none) (he : PE3 X W e f) (he2 : PE3 X W e2 g) (hg : Gl X "zip" := by rfl)
    (hs : starEach [e, e2] X.env = (false, eval e X.env) :: starEach [e2] X.env := by rfl) (hs2 : starEach [e2] X.env = (false, eval e2 X.env) :: starEach [] X.env := by rfl) (hpl : (backTo pos (starEach [e2] X.env)).any (·.1) = false := by rfl) :
    PI3 X W (.Tuple elts kk tpos) (.Call (.Name "zip" p) [e, e2] [] pos) (iZp f g) := by
  obtain ⟨te, pe, q⟩ := he
  obtain ⟨te2, pe2, q2⟩ := he2
  refine ⟨_, RZ.pi_zipA hg hm (pa_cons pe (pa_cons pe2 pa_nil hs2) hs) hs hpl, fun σ H ρ Γ L R E A h => ?_⟩
  refine q σ H ρ Γ L _ E A (hbind (ihold_eq h) fun x L1 vx H1 ρ1 e1 r1 A1 h1 => ?_)
  refine q2 σ H1 ρ1 Γ L1 _ (E.mono e1) A1 (hbind h1 fun y L2 vy H2 ρ2 e2 r2 A2 h2 => ?_)
  split at h2
  · rename_i a b ha hb
    obtain ⟨c, rfl, ⟨vs, hv, hl⟩, h3⟩ := seqI_ok A2 ha (Rep.mono e2 x r1)
    obtain ⟨d, rfl, ⟨us, hu, hl2⟩, h4⟩ := seqI_ok A2 hb r2
    refine ⟨c, d, vs, us, rfl, .inl ⟨hv, hu, h2.mk A2 ?_⟩⟩
    exact itok_zip (Sq := fun H ws => SqL X.K H c ws) (Sr := fun H ws => SqL X.K H d ws) h3 h4 (fun i H vs us a b q r => ⟨vs, us, vs[i], us[i], q, r, List.getElem?_eq_getElem a, List.getElem?_eq_getElem b⟩) (fun i H vs us o q r => ⟨vs, us, q, r, o⟩) fun i H v H' hy => hy
  · split at h2
    · rename_i a b ha hb
      obtain ⟨c, rfl, ⟨vs, hv, hl⟩, h3⟩ := tupI_ok ha (Rep.mono e2 x r1)
      obtain ⟨d, rfl, ⟨us, hu, hl2⟩, h4⟩ := tupI_ok hb r2
      refine ⟨c, d, vs, us, rfl, .inr ⟨hv, hu, h2.mk A2 ?_⟩⟩
      exact itok_zip (Sq := fun H ws => SqT X.K H c ws) (Sr := fun H ws => SqT X.K H d ws) h3 h4 (fun i H vs us a b q r => ⟨vs, us, vs[i], us[i], q, r, List.getElem?_eq_getElem a, List.getElem?_eq_getElem b⟩) (fun i H vs us o q r => ⟨vs, us, q, r, o⟩) fun i H v H' hy => hy
    · exact h2.elim
/-! ## raise -/
@[simp] def sRaise (c : Str) (Γ : G3) (L : Lh) : Out := .exn c Γ L
theorem s3_raise {x m : Str} {j : Nat} {p p2 pos2 : Pos} {B newId initId : String} {bmB : List Value} (hc : X.calm = true) (tk : Takes X W) (F : ExcBaseFacts B newId initId bmB) (q : PySem.W.excIn X.K (He.ga X.K x) bmB newId = true) (gC : X.mg x = some (.ref (He.ga X.K x))) (kC : PySem.W.keepIn X.K (.ref (He.ga X.K x)) = true) (r : Raises X (.ref (He.ga X.K x))) (hg : Gl X x := by rfl)
    (hdb : (x == ("__debug__" : Str)) = false := by decide) : PS3 X W (.Raise (some (.Call (.Name x p) [.Constant (.str m) j p2] [] pos)) none pos2) (sRaise x) :=
  ⟨_, ps_raise hc tk (pmk_own F q gC kC r hg hdb), fun σ H ρ Γ L Dn E A h => h σ H ρ (Ext.refl _ _) E A⟩
end
/-- the context of a def's body -/
abbrev cx3 (P : Program) (w : World) (K : PySem.W.Frag) (mg : Str → Option Value) (base : Heap) (N : List Str) (qual : Str) (scope : Scope) (f : Addr) (cd : Value) (A : Around) (outer : List Env) (s : Shared) (H : Hp) (E : XK) : Cx := cxOf (L2.CX P w) P w K mg base N qual scope f cd A outer s H E
theorem fn4 {P : Program} {w : World} {K : PySem.W.Frag} {mg : Str → Option Value} {base : Heap} {x qual : Str} {params : Arguments} {body : List Stmt} {scope : Scope} {dvs : List V} {kws : List (Str × V)} {f : Addr} {fd : FuncData} {N ps : List Str} {k n m : Nat} {t : S3}
    (F : FunD K x qual params body scope dvs kws f fd) (S : FnScope N ps scope) (hps : ps.length = m) (hN : N.length = n)
    (hbody : ∀ (cdv : Value) (A : Around) (outer : List Env) (s : Shared) (H : Hp) (E : XK) (W : WX), Room k (cx3 P w K mg base N qual scope f cdv A outer s H E).A → Takes (cx3 P w K mg base N qual scope f cdv A outer s H E) W →
      PassesOwn (model P w) (cx3 P w K mg base N qual scope f cdv A outer s H E).A (cx3 P w K mg base N qual scope f cdv A outer s H E).env (cx3 P w K mg base N qual scope f cdv A outer s H E).xe → PSs3 (cx3 P w K mg base N qual scope f cdv A outer s H E) W body t) :
    FnOk P w K mg base (L2.CX P w) (k + 1) f fd ps (emb K (run3 m n t)) := by
  refine F.ok S (fun vs H Q E h => ?_) (fun cdv A outer s H vs Q E hr h => ?_)
  · obtain ⟨ds, L, ρ, r, _, h⟩ := h
    unfold run3 at h
    split at h
    · rename_i hl
      rw [hps, Reps.length r]; exact hl
    · exact h.elim
  · obtain ⟨ds, L, ρ, r, Ab0, h⟩ := h
    have hW : Takes (cxOf (L2.CX P w) P w K mg base N qual scope f cdv A outer s H E) (fun c dd _ H => E c dd H) := takes_of rfl rfl rfl rfl
    obtain ⟨ts, p, q⟩ := hbody cdv A outer s H E _ hr hW (passes_of (K := fun e s'' => L2.CX P w outer H s E e s'') rfl)
    refine ⟨ts, p, q _ H ρ _ L _ (env_start r n hN) Ab0 ?_⟩
    unfold run3 at h
    split at h
    · cases ht : t (ds.map some ++ List.replicate (n - ds.length) none) L with
      | nx Γ L' =>
        rw [ht] at h
        have h := trunc_hold Ab0 h
        exact fun σ' H' ρ' e E' A' => h .non H' ρ' e rfl A'
      | ret d L' =>
        rw [ht] at h
        exact trunc_hold Ab0 h
      | exn c Γ L' =>
        rw [ht] at h
        have h := truncX_hold Ab0 h
        exact fun σ' H' ρ' e E' A' => h H' ρ' e A'
      | brk _ _ => rw [ht] at h; exact h.elim
      | ct _ _ => rw [ht] at h; exact h.elim
      | stuck => rw [ht] at h; exact h.elim
    · exact h.elim
/-- a def of the text by its level-3 function -/
structure DefAt (P : Program) (w : World) (K : PySem.W.Frag) (mg : Str → Option Value) (base : Heap) (x : Str) (ps : List Str) (k : Nat) (fn : Fn3) (f : Addr) (fd : FuncData) : Prop where
  ok : FnOk P w K mg base (L2.CX P w) k f fd ps (emb K fn)
  gl : mg x = some (.ref f)
  kp : PySem.W.keepIn K (.ref f) = true
  bi : Binds K fd ps []
def Def3 (P : Program) (w : World) (K : PySem.W.Frag) (mg : Str → Option Value) (base : Heap) (x : Str) (ps : List Str) (k : Nat) (fn : Fn3) : Prop :=
  ∃ (f : Addr) (fd : FuncData), DefAt P w K mg base x ps k fn f fd
theorem def3 {P : Program} {w : World} {K : PySem.W.Frag} {mg : Str → Option Value} {base : Heap} {d : He.DefD} {f : Addr} {fd : FuncData} {N ps : List Str} {k n m : Nat} {t : S3}
    (F : FunD K d.name d.qual d.params d.body d.scope (d.dvs K) (d.kws K) f fd) (hd : d.dfl = []) (hm : mg d.name = some (.ref f)) (S : FnScope N ps d.scope) (hps : ps.length = m) (hN : N.length = n)
    (hbi : ∀ (kV doc pm : Value) (an : Option Addr) (cdv ct : Value) (us : List Value), us.length = ps.length → bindArgs (PySem.W.fnOf d.name d.qual d.params d.body d.scope .none kV doc pm an cdv ct) ⟨us, []⟩ = pure (ps.zip us))
    (hbody : ∀ (cdv : Value) (A : Around) (outer : List Env) (s : Shared) (H : Hp) (E : XK) (W : WX), Room k (cx3 P w K mg base N d.qual d.scope f cdv A outer s H E).A → Takes (cx3 P w K mg base N d.qual d.scope f cdv A outer s H E) W →
      PassesOwn (model P w) (cx3 P w K mg base N d.qual d.scope f cdv A outer s H E).A (cx3 P w K mg base N d.qual d.scope f cdv A outer s H E).env (cx3 P w K mg base N d.qual d.scope f cdv A outer s H E).xe → PSs3 (cx3 P w K mg base N d.qual d.scope f cdv A outer s H E) W d.body t) :
    DefAt P w K mg base d.name ps (k + 1) (run3 m n t) f fd := by
  have e : d.dvs K = [] := by unfold He.DefD.dvs; rw [hd]; rfl
  rw [e] at F
  exact ⟨fn4 F S hps hN hbody, hm, F.kp, F.bindsN hbi⟩
theorem e3_callD {X : Cx} {W : WX} {pos : Pos} {e : Expr} {es : List Expr} {x : Str} {p : Pos} {k j : Nat} {ps : List Str} {fn : Fn3} {g : A3} (D : Def3 X.prog X.w X.K X.mg X.base x ps k fn) (hr : Room j X.A) (tk : Takes X W) (ha : PA3 X W (e :: es) g) (hj : k ≤ j := by decide)
    (hg : Gl X x := by rfl) (hdb : (x == ("__debug__" : Str)) = false := by decide) (hs : starEach (e :: es) X.env = (false, eval e X.env) :: starEach es X.env := by rfl) (hpl : (backTo pos (starEach es X.env)).any (·.1) = false := by rfl) :
    PE3 X W (.Call (.Name x p) (e :: es) [] pos) (eCall fn g) := by
  obtain ⟨f, fd, F, hm, hk, hb⟩ := D
  exact e3_call F (hr.mono hj) hm hk hb tk ha hg hdb hs hpl
/-- names of built-ins that the module leaves alone -/
structure Free (mg : Str → Option Value) : Prop where
  abs : mg "abs" = none
  max : mg "max" = none
  min : mg "min" = none
  int : mg "int" = none
  len : mg "len" = none
  range : mg "range" = none
  enumerate : mg "enumerate" = none
  zip : mg "zip" = none
  reversed : mg "reversed" = none
  list : mg "list" = none
  tuple : mg "tuple" = none
  sum : mg "sum" = none
  any : mg "any" = none
  all : mg "all" = none
  isinstance : mg "isinstance" = none
  divmod : mg "divmod" = none
  str : mg "str" = none
  repr : mg "repr" = none
  bool : mg "bool" = none
def freeFa : List He.Fa := [.free "abs", .free "max", .free "min", .free "int", .free "len", .free "range", .free "enumerate", .free "zip", .free "reversed", .free "list", .free "tuple", .free "sum", .free "any", .free "all", .free "isinstance", .free "divmod", .free "str", .free "repr", .free "bool"]
theorem free_of {K : PySem.W.Frag} {h : Heap} {mg : Str → Option Value} (X : K.In h) (G : h.Ns mainGlobals mg) {fa : List He.Fa} {fn : List He.DefD} (c : He.SaysD fa fn K) (hf : ∀ f ∈ freeFa, f ∈ fa) : Free mg :=
  have z : ∀ x : Str, He.Fa.free x ∈ freeFa → mg x = none := fun x hx => He.free_ok X G (c.facts (hf _ hx))
  ⟨z _ (by simp [freeFa]), z _ (by simp [freeFa]), z _ (by simp [freeFa]), z _ (by simp [freeFa]), z _ (by simp [freeFa]), z _ (by simp [freeFa]), z _ (by simp [freeFa]), z _ (by simp [freeFa]), z _ (by simp [freeFa]), z _ (by simp [freeFa]), z _ (by simp [freeFa]), z _ (by simp [freeFa]), z _ (by simp [freeFa]), z _ (by simp [freeFa]), z _ (by simp [freeFa]), z _ (by simp [freeFa]), z _ (by simp [freeFa]), z _ (by simp [freeFa]), z _ (by simp [freeFa])⟩
/-- the script, at the law's call -/
theorem law_emb {K : PySem.W.Frag} {fn : Fn3} {H : Hp} {a : Addr} {ns : List Int} (h : ∃ L, fn [.rol (ns.map D.int)] [] = .val (.bl true) L) (hO : Only H) (hS : SqL K H a (ns.map V.int)) : emb K fn [.ref a] H (fun v _ => v = .bl true) fun _ _ _ => False := by
  obtain ⟨L, e⟩ := h
  have hr : RoL K H a (ns.map V.int) := by
    rcases hS with (h1 | ⟨o, h1⟩) | h1
    · rcases hO a with z | ⟨o, xs, z⟩
      · rw [z] at h1; cases h1
      · rw [z] at h1; cases h1
    · exact .inl ⟨o, h1⟩
    · exact .inr h1
  have hv : ∀ ns : List Int, Reps K [] H (ns.map D.int) (ns.map V.int) := fun ns => by
    induction ns with
    | nil => rfl
    | cons n ns ih => exact ⟨_, _, rfl, rfl, ih⟩
  refine ⟨[.rol (ns.map D.int)], [], [], ⟨.ref a, [], rfl, ⟨a, _, rfl, hr, hv ns⟩, rfl⟩, ⟨rfl, List.nodup_nil, fun n c e => by simp at e⟩, ?_⟩
  rw [e]
  exact fun v H' ρ' _ r _ => r
/-- the end of a law whose defs may let errors out -/
theorem law_walk {lw : PySem.W.OpenLaw} {n k : Nat} {qq : Program} {ls : List Str} {Xp : (Str → Option Value) → Heap → Prop} {Yp : World → Heap → Prop} {dr : DefRec} {x : Str} {fn : Fn3}
    (hm : lw.most = some n) (hz : n ≤ sizeLine) (hd0 : dr.params.defaults = []) (room : Room k callerA)
    (get : ∀ (w : World) (mg : Str → Option Value) (fa : Addr) (h : Heap), Yp w h → h.Ns mainGlobals mg → mg dr.name = some (.ref fa) → ∃ (K : PySem.W.Frag) (fd : FuncData), K.In h ∧
      (∀ (s : Shared) (u : Value), BindsTo s fd ⟨[u], []⟩ [(x, u)]) ∧ ∀ base : Heap, K.In base → base.Ns mainGlobals mg → FnOk lw.prog w K mg base (L2.CX lw.prog w) k fa fd [x] (emb K fn))
    (holds : ∀ ns : List Int, ns.length ≤ n → ∃ L, fn [.rol (ns.map D.int)] [] = .val (.bl true) L) :
    PySem.W.WalkO qq ls Xp Yp lw.row.toRowW dr [] (fun f vs => PySem.call f vs) := by
  refine Att.attach_call hm hd0 ?_
  intro w t0 t1 mg mb fa ob m1 m2 m3 ad us js Gd Yd e1 e2 e3 e4 e5 e6 e7 e8
  obtain ⟨K, fd, inK, bnd, ok⟩ := get w mg fa _ Yd Gd.T.g e4
  refine law_call inK Gd.T.g Gd.T.b Gd.T.builtins Gd.T.nolimit e8 e5 e6
    (Nat.le_trans e7 hz) room ok bnd
    (fun H only sq => law_emb (holds js e7) only sq) ?_
  intro H ev t' z
  obtain ⟨_, _, _, _, _, _, _, _, _, _, _, _, y⟩ := z
  exact y.elim
/-! ## rules for reasoning about loops -/
theorem sWhile_inv {c : T3} {b : S3} (I : Nat → G3 → Lh → Prop) (Post : Out → Prop) (hp : ¬ Post .stuck)
    (step : ∀ m Γ L, I m Γ L → (∃ L1, c Γ L = .val false L1 ∧ Post (.nx Γ L1)) ∨ (∃ L1, c Γ L = .val true L1 ∧ ((∃ Γ2 L2 m', (b Γ L1 = .nx Γ2 L2 ∨ b Γ L1 = .ct Γ2 L2) ∧ m' < m ∧ I m' Γ2 L2) ∨ (∃ d L2, b Γ L1 = .ret d L2 ∧ Post (.ret d L2)) ∨ (∃ Γ2 L2, b Γ L1 = .brk Γ2 L2 ∧ Post (.nx Γ2 L2))))) :
    ∀ m Γ L, I m Γ L → Post (sWhile c b Γ L) := by
  have key : ∀ m Γ L, I m Γ L → ∃ n o, wN n c b Γ L = o ∧ Post o := by
    intro m
    induction m using Nat.strongRecOn with
    | ind m ih =>
      intro Γ L h
      rcases step m Γ L h with ⟨L1, h1, h2⟩ | ⟨L1, h1, ⟨Γ2, L2, m', h2, h3, h4⟩ | ⟨d, L2, h2, h3⟩ | ⟨Γ2, L2, h2, h3⟩⟩
      · exact ⟨1, _, by simp only [wN, wStep, h1, R3.out]; rfl, h2⟩
      · obtain ⟨n, o, e1, e2⟩ := ih m' h3 Γ2 L2 h4
        refine ⟨n + 1, o, ?_, e2⟩
        rcases h2 with h2 | h2 <;> (simp only [wN, wStep, h1, R3.out, if_true, h2]; exact e1)
      · exact ⟨1, _, by simp only [wN, wStep, h1, R3.out, if_true, h2], h3⟩
      · exact ⟨1, _, by simp only [wN, wStep, h1, R3.out, if_true, h2], h3⟩
  intro m Γ L h
  obtain ⟨n, o, e1, e2⟩ := key m Γ L h
  have ho : o ≠ .stuck := fun z => hp (z ▸ e2)
  rw [sWhile_eq n e1 ho]
  exact e2
theorem forL_inv {chk : Lh → Prop} {g : Tg3} {b : S3} (I : List D → G3 → Lh → Prop) (Post : Out → Prop)
    (hn : ∀ Γ L, I [] Γ L → chk L ∧ Post (.nx Γ L))
    (step : ∀ x r Γ L, I (x :: r) Γ L → chk L ∧ ∃ Γ1 L1, g x Γ L = .nx Γ1 L1 ∧ ((∃ Γ2 L2, (b Γ1 L1 = .nx Γ2 L2 ∨ b Γ1 L1 = .ct Γ2 L2) ∧ I r Γ2 L2) ∨ (∃ d L2, b Γ1 L1 = .ret d L2 ∧ Post (.ret d L2)) ∨ (∃ Γ2 L2, b Γ1 L1 = .brk Γ2 L2 ∧ Post (.nx Γ2 L2)))) :
    ∀ xs Γ L, I xs Γ L → Post (forL chk g b xs Γ L)
  | [], Γ, L, h => by
    obtain ⟨h1, h2⟩ := hn Γ L h
    rw [forL, if_pos h1]; exact h2
  | x :: r, Γ, L, h => by
    obtain ⟨h1, Γ1, L1, h2, h3⟩ := step x r Γ L h
    rw [forL, if_pos h1, h2]
    rcases h3 with ⟨Γ2, L2, h3, h4⟩ | ⟨d, L2, h3, h4⟩ | ⟨Γ2, L2, h3, h4⟩
    · rcases h3 with h3 | h3 <;> (simp only [h3]; exact forL_inv I Post hn step r Γ2 L2 h4)
    · simp only [h3]; exact h4
    · simp only [h3]; exact h4
/-- a comprehension's loop: n the place of the list that is made; acc what it holds so far -/
theorem lcL_inv {chk : Lh → Prop} {g : Tg3} {t : T3} {e : E3} {Γ0 : G3} {n : Nat} (I : List D → Lh → Prop) (Post : Lh → Prop)
    (hn : ∀ L, I [] L → chk L ∧ Post L)
    (step : ∀ x r L, I (x :: r) L → chk L ∧ ∃ Γ1 L1, g x Γ0 L = .nx Γ1 L1 ∧ ((∃ L2 y L3 acc, t Γ1 L1 = .val true L2 ∧ e Γ1 L2 = .val y L3 ∧ L3[n]? = some (.lst acc) ∧ acc.length ≤ 100000 ∧ I r (L3.set n (.lst (acc ++ [y])))) ∨ ∃ L2, t Γ1 L1 = .val false L2 ∧ I r L2)) :
    ∀ xs L, I xs L → ∃ L', lcL chk g t e Γ0 n xs L = .val (.loc n) L' ∧ Post L'
  | [], L, h => by
    obtain ⟨h1, h2⟩ := hn L h
    exact ⟨L, by rw [lcL, if_pos h1], h2⟩
  | x :: r, L, h => by
    obtain ⟨h1, Γ1, L1, h2, ⟨L2, y, L3, acc, h3, h4, h5, h6, h7⟩ | ⟨L2, h3, h4⟩⟩ := step x r L h
    · obtain ⟨L', q1, q2⟩ := lcL_inv I Post hn step r _ h7
      exact ⟨L', by rw [lcL, if_pos h1, h2]; simp only [h3, h4, h5, if_pos h6]; exact q1, q2⟩
    · obtain ⟨L', q1, q2⟩ := lcL_inv I Post hn step r _ h4
      exact ⟨L', by rw [lcL, if_pos h1, h2]; simp only [h3]; exact q1, q2⟩
theorem set_append_last {L : Lh} {c d : Cell} : (L ++ [c]).set L.length d = L ++ [d] := by
  rw [List.set_append]; simp
/-- a comprehension that only reads: its list is the map -/
theorem lcL_map {chk : Lh → Prop} {g : Tg3} {e : E3} {Γ0 : G3} {L : Lh} {f : D → D} (Γf : D → G3) (xs : List D) (hl : xs.length ≤ 100000) (hc : ∀ acc, chk (L ++ [.lst acc]))
    (hg : ∀ x acc, x ∈ xs → g x Γ0 (L ++ [.lst acc]) = .nx (Γf x) (L ++ [.lst acc])) (he : ∀ x acc, x ∈ xs → e (Γf x) (L ++ [.lst acc]) = .val (f x) (L ++ [.lst acc])) :
    ∀ acc : List D, acc.length + xs.length ≤ 100000 → lcL chk g tTrue e Γ0 L.length xs (L ++ [.lst acc]) = .val (.loc L.length) (L ++ [.lst (acc ++ xs.map f)]) := by
  induction xs with
  | nil => intro acc _; rw [lcL, if_pos (hc acc)]; simp
  | cons x r ih =>
    intro acc h
    rw [lcL, if_pos (hc acc), hg x acc (by simp)]
    have hget : (L ++ [Cell.lst acc])[L.length]? = some (.lst acc) := by simp
    simp only [List.length_cons] at h
    simp only [tTrue, he x acc (by simp), hget]
    rw [if_pos (by omega), set_append_last]
    have ih' := ih (by omega) (fun y a hy => hg y a (by simp [hy])) (fun y a hy => he y a (by simp [hy])) (acc ++ [f x]) (by simp; omega)
    rw [ih']
    simp
/-- .. with a test -/
theorem lcL_filter {chk : Lh → Prop} {g : Tg3} {t : T3} {e : E3} {Γ0 : G3} {L : Lh} {f : D → D} {p : D → Bool} (Γf : D → G3) (xs : List D) (hl : xs.length ≤ 100000) (hc : ∀ acc, chk (L ++ [.lst acc]))
    (hg : ∀ x acc, x ∈ xs → g x Γ0 (L ++ [.lst acc]) = .nx (Γf x) (L ++ [.lst acc])) (ht : ∀ x acc, x ∈ xs → t (Γf x) (L ++ [.lst acc]) = .val (p x) (L ++ [.lst acc])) (he : ∀ x acc, x ∈ xs → p x = true → e (Γf x) (L ++ [.lst acc]) = .val (f x) (L ++ [.lst acc])) :
    ∀ acc : List D, acc.length + xs.length ≤ 100000 → lcL chk g t e Γ0 L.length xs (L ++ [.lst acc]) = .val (.loc L.length) (L ++ [.lst (acc ++ (xs.filter p).map f)]) := by
  induction xs with
  | nil => intro acc _; rw [lcL, if_pos (hc acc)]; simp
  | cons x r ih =>
    intro acc h
    rw [lcL, if_pos (hc acc), hg x acc (by simp)]
    have hget : (L ++ [Cell.lst acc])[L.length]? = some (.lst acc) := by simp
    simp only [List.length_cons] at h
    simp only [ht x acc (by simp)]
    have ih0 := ih (by omega) (fun y a hy => hg y a (by simp [hy])) (fun y a hy => ht y a (by simp [hy])) (fun y a hy => he y a (by simp [hy]))
    cases hp : p x with
    | true =>
      simp only [he x acc (by simp) hp, hget]
      rw [if_pos (by omega), set_append_last, ih0 (acc ++ [f x]) (by simp; omega)]
      simp [hp]
    | false =>
      simp only []
      rw [ih0 acc (by omega)]
      simp [hp]
/-! ## methods of lists -/
section
variable {L : Lh} {n m : Nat} {xs ys : List D} {d : D}
theorem isTy_list (h : L[n]? = some (.lst xs)) : isTy "list" (.loc n) L = true := by unfold isTy; simp only [h]; rfl
theorem mAppend_eq (h : L[n]? = some (.lst xs)) (hl : xs.length ≤ 100000) : mAppend (.loc n) [d] L = .val .non (L.set n (.lst (xs ++ [d]))) := by
  unfold mAppend onL; simp only [h]; rw [if_pos hl]
theorem mExtend_eq (h : L[n]? = some (.lst xs)) (h2 : L[m]? = some (.lst ys)) (hl : xs.length + ys.length ≤ 100000) : mExtend (.loc n) [.loc m] L = .val .non (L.set n (.lst (xs ++ ys))) := by
  unfold mExtend onL; simp only [h, h2]; rw [if_pos hl]
theorem mInsert_eq {i : Nat} (h : L[n]? = some (.lst xs)) (hl : xs.length ≤ 100000) (hi : i ≤ 100000) : mInsert (.loc n) [.int i, d] L = .val .non (L.set n (.lst (xs.take i ++ [d] ++ xs.drop i))) := by
  unfold mInsert onL; simp only [h]; rw [if_pos (by omega)]; rfl
theorem mPop_eq (h : L[n]? = some (.lst (xs ++ [d]))) : mPop (.loc n) [] L = .val d (L.set n (.lst xs)) := by
  unfold mPop onL; simp only [h]; simp
theorem mClear_eq (h : L[n]? = some (.lst xs)) : mClear (.loc n) [] L = .val .non (L.set n (.lst [])) := by
  unfold mClear onL; simp only [h]
theorem mReverse_eq (h : L[n]? = some (.lst xs)) : mReverse (.loc n) [] L = .val .non (L.set n (.lst xs.reverse)) := by
  unfold mReverse onL; simp only [h]
end
/-! ## what a call hands back -/
theorem run3_ret {k n : Nat} {t : S3} {ds : List D} {L L' : Lh} {d : D} (h : ds.length = k) (e : t (ds.map some ++ List.replicate (n - ds.length) none) L = .ret d L') : run3 k n t ds L = trunc L d L' := by unfold run3; rw [if_pos h, e]
theorem run3_nx {k n : Nat} {t : S3} {ds : List D} {L L' : Lh} {Γ : G3} (h : ds.length = k) (e : t (ds.map some ++ List.replicate (n - ds.length) none) L = .nx Γ L') : run3 k n t ds L = trunc L .non L' := by unfold run3; rw [if_pos h, e]
theorem run3_exn {k n : Nat} {t : S3} {ds : List D} {L L' : Lh} {Γ : G3} {c : Str} (h : ds.length = k) (e : t (ds.map some ++ List.replicate (n - ds.length) none) L = .exn c Γ L') : run3 k n t ds L = truncX L c L' := by unfold run3; rw [if_pos h, e]
theorem run_ret {k n : Nat} {t : S3} {ds : List D} {L L' : Lh} {d : D} {Γ0 : G3} {r : R3 D} (h0 : ds.map some ++ List.replicate (n - ds.length) none = Γ0) (hk : ds.length = k) (e : t Γ0 L = .ret d L') (ht : trunc L d L' = r) : run3 k n t ds L = r := by
  subst h0; rw [run3_ret hk e]; exact ht
theorem run_nx {k n : Nat} {t : S3} {ds : List D} {L L' : Lh} {Γ0 Γ1 : G3} {r : R3 D} (h0 : ds.map some ++ List.replicate (n - ds.length) none = Γ0) (hk : ds.length = k) (e : t Γ0 L = .nx Γ1 L') (ht : trunc L .non L' = r) : run3 k n t ds L = r := by
  subst h0; rw [run3_nx hk e]; exact ht
theorem run_exn {k n : Nat} {t : S3} {ds : List D} {L L' : Lh} {Γ0 Γ1 : G3} {c : Str} {r : R3 D} (h0 : ds.map some ++ List.replicate (n - ds.length) none = Γ0) (hk : ds.length = k) (e : t Γ0 L = .exn c Γ1 L') (ht : truncX L c L' = r) : run3 k n t ds L = r := by
  subst h0; rw [run3_exn hk e]; exact ht
theorem seq_nx {t u : S3} {Γ Γ1 : G3} {L L1 : Lh} (h : t Γ L = .nx Γ1 L1) : sSeq t u Γ L = u Γ1 L1 := by unfold sSeq; rw [h]
theorem seq_ret {t u : S3} {Γ : G3} {L L1 : Lh} {d : D} (h : t Γ L = .ret d L1) : sSeq t u Γ L = .ret d L1 := by unfold sSeq; rw [h]
theorem seq_exn {t u : S3} {Γ Γ1 : G3} {L L1 : Lh} {c : Str} (h : t Γ L = .exn c Γ1 L1) : sSeq t u Γ L = .exn c Γ1 L1 := by unfold sSeq; rw [h]
/-- an answer without lists of its own, the cells as they were -/
theorem trunc_flat {L G : Lh} {d : D} (h : closed L.length d = true) : trunc L d (L ++ G) = .val d L := by
  unfold trunc; rw [if_pos (by simp), if_pos h]
theorem trunc_same {L : Lh} {d : D} (h : closed L.length d = true) : trunc L d L = .val d L := by
  unfold trunc; rw [if_pos (by simp), if_pos h]
/-- a new list -/
theorem trunc_new {L L' : Lh} {m : Nat} {xs : List D} (h1 : L'.take L.length = L) (hm : L.length ≤ m) (h2 : L'[m]? = some (.lst xs)) (h3 : closeds L.length xs = true) : trunc L (.loc m) L' = .val (.loc L.length) (L ++ [.lst xs]) := by
  unfold trunc
  rw [if_pos h1, if_neg (by simp [closed]; omega)]
  simp only [h2, if_pos h3]
theorem truncX_eq {L G : Lh} {c : Str} : truncX L c (L ++ G) = .exn c L := by
  unfold truncX; rw [if_pos (by simp)]
/-- cells changed -/
theorem trunc_other {L L' : Lh} {d : D} (h : L'.take L.length ≠ L) : trunc L d L' = .val d L' := by
  unfold trunc; rw [if_neg h]
/-! enumerate over a tuple -/
theorem enum1_new {v : Value} {o : Obj} {Hh : Heap → Prop} (B : Begins v o Hh) :
    Meets (Builtin.«enumerate.__new__» ⟨[.type "enumerate", v], []⟩) (fun _ R s => Hh s.heap ∧
      R (.ok (.ret (.ref (s.heap.push o).objs.size)))
        { s with heap := (s.heap.push o).push { cls := .type "enumerate", data := .fields #[.none, .bool false, .ref s.heap.objs.size, rawInt 0, .none, .none] } }) :=
  .of_wp fun prog w A R s h => by
    obtain ⟨h0, g0, d0, t0, o0⟩ := s
    obtain ⟨hb, h⟩ := h
    have hsub := sub_enumerate
    have walk : ∀ {A' : Around} {E : Value → Shared → Prop} {Q : Value → Shared → Prop}, Q (.ref h0.objs.size) ⟨h0.push o, g0, d0, t0, o0⟩ →
        wpAny (model prog w) A' (pyIter v) Q E ⟨h0, g0, d0, t0, o0⟩ := fun q => B.iter prog w _ _ ⟨h0, g0, d0, t0, o0⟩ _ hb q
    wp_walk using walk
    refine wpAny_stack_any fun st => wpAny_pure ?_
    split
    · rename_i c _ _ _ _ _
      cases (c == Value.type "enumerate") <;> (wp_walk using walk; exact ⟨_, rfl, h⟩)
    · wp_walk using walk
      exact ⟨_, rfl, h⟩
theorem enum1_begins {prog : Program} {w : World} {A : Around} {E : Value → Shared → Prop} {s : Shared} {v : Value} {o : Obj} {Hh : Heap → Prop} {Q : Value → Shared → Prop} (B : Begins v o Hh) (h1 : Hh s.heap)
    (h : ∀ h', IsEnum h' (s.heap.objs.size + 1) s.heap.objs.size 0 .none → h'.get? s.heap.objs.size = some o → h'.objs.size = s.heap.objs.size + 2 →
      (∀ b u, s.heap.get? b = some u → h'.get? b = some u) → Q (.ref (s.heap.objs.size + 1)) { s with heap := h' }) :
    wpAny (model prog w) A (call (.type "enumerate") [v]) Q E s := by
  refine callType_new F.called_enumerate (by decide) (F.typeCall_enumerate_1 _) (F.newCall_enumerate_1 _)
    (fun ob => F.args_object_init_2 ob _) F.entry_enumerate_new (enum1_new B) ⟨h1, ?_⟩
  have z1 : (s.heap.push o).objs.size = s.heap.objs.size + 1 := Heap.size_push ..
  show _ ∧ _
  rw [z1]
  have en : IsEnum ((s.heap.push o).push { cls := .type "enumerate", data := .fields #[.none, .bool false, .ref s.heap.objs.size, rawInt 0, .none, .none] }) (s.heap.objs.size + 1) s.heap.objs.size 0 .none := by
    have q := Heap.get?_push_size (s.heap.push o) (o := { cls := .type "enumerate", data := .fields #[.none, .bool false, .ref s.heap.objs.size, rawInt 0, .none, .none] }) rfl
    rw [z1] at q
    exact q
  exact ⟨⟨_, en, rfl⟩, h _ en (Heap.get?_push_of_some _ (Heap.get?_push_size _ B.free)) (by rw [Heap.size_push, z1]) fun b u x => Heap.get?_push_of_some _ (Heap.get?_push_of_some _ x)⟩
def ItEnT (K : PySem.W.Frag) (a : Addr) : L2.It :=
  ⟨fun i H => ∃ (xs : List V) (x : V), SqT K H a xs ∧ xs[i]? = some x,
   fun i H v H' => ∃ T x, v = .ref T ∧ H T = none ∧ H' = upd H T (.tup [.int (i : Nat), x]) ∧ ∀ xs, SqT K H a xs → xs[i]? = some x,
   fun i H => ∃ xs : List V, SqT K H a xs ∧ xs.length ≤ i⟩
theorem turn_enT {P : Program} {w : World} {K : PySem.W.Frag} {elts : List Expr} {kk : Nat} {tpos : Pos} (a e it : Addr) (hat : a ≠ it) (hae : a ≠ e) :
    Turn P w K (.Tuple elts kk tpos) (ItEnT K a) [e, it] e (fun i h => (∃ old, IsEnum h e it ((i : Nat) : Int) old) ∧ h.IsTupleIter it a i ∧ e ≠ it) where
  mem := by simp
  obj := fun i h st b hb => by
    obtain ⟨⟨old, he⟩, ⟨ob, ho, hc, hd⟩, _⟩ := st
    rcases (show b = e ∨ b = it by simpa using hb) with rfl | rfl
    · exact ⟨_, he, fun v q => nomatch q⟩
    · exact ⟨ob, ho, fun v q => by rw [hd] at q; cases q⟩
  keep := fun i h h' st k => let ⟨⟨old, he⟩, hi, hne⟩ := st; ⟨⟨old, k e (by simp) _ he⟩, hi.at fun ob q => k it (by simp) ob q, hne⟩
  item := by
    intro X hP hw hK hc i pins s σ H E I hf st hg
    subst hP hw hK
    obtain ⟨⟨old, he⟩, hit, hne⟩ := st
    obtain ⟨xs, x, hq, hx⟩ := hg
    obtain ⟨its, rv, p, hz⟩ := I.tuple hq
    obtain ⟨u, hu, ru⟩ := rv.get hx
    have hel : e < s.heap.objs.size := Heap.lt_size he
    have hil : it < s.heap.objs.size := by obtain ⟨_, q, _⟩ := hit; exact Heap.lt_size q
    have hlt : i < its.toArray.size := by
      have := (List.getElem?_eq_some_iff.mp hu).1
      simpa using this
    have DT := Draws.tuple (prog := X.prog) (w := X.w) (A := X.A.in1) (I.ok.hd hc) it a hat its.toArray
    have hef : e ∉ [it, a] := by
      simp only [List.mem_cons, List.not_mem_nil, or_false, not_or]
      exact ⟨hne, Ne.symm hae⟩
    refine wpAny_pyNext_enum_itemD DT he ⟨hit, p⟩ hlt hne hef fun y h' tk py ho st2 hT hsz hk => ?_
    obtain rfl : y = u := by
      have q : its.toArray[i]? = some y := py
      have q2 : its[i]? = some y := by simpa using q
      rw [hu] at q2; exact (Option.some.inj q2).symm
    refine ⟨_, rfl, wpAny_letOwnedTupleGo_enum (s := { s with heap := h', toks := tk + 1 }) ho fun h'' he' sb => ?_⟩
    have hT2 : h''.get? s.heap.objs.size = some { cls := .type "tuple", data := .seq #[.int i tk, y] } := (sb.2 _ (Nat.ne_of_gt hel)).trans hT
    have new : ObjOk X.prog X.w (upd H s.heap.objs.size (.tup [.int (i : Nat), x])) h'' s.heap.objs.size (.tup [.int (i : Nat), x]) :=
      ⟨by show 2 ≤ sizeLine; decide, [.int i tk, y], .cons ⟨_, rfl⟩ (.cons ru .nil), ⟨_, hT2, rfl, _, rfl⟩⟩
    have I1 : Inv X pins σ (upd H s.heap.objs.size (.tup [.int (i : Nat), x])) { s with heap := h'', toks := tk + 1 } :=
      I.turnedNew (ch := [e, it]) (fun b ob hb q => (sb.2 b (fun z => hb (by simp [z]))).trans (hk b ob (fun z => hb (by simp [z])) (fun z => hb (by simp [z])) q)) hf (Nat.le_refl _) new
    refine ⟨.ref s.heap.objs.size, _, I1, rfl, ⟨_, x, rfl, I.hok.fresh (Nat.le_refl _), rfl, fun ys hy => by rw [I.tuple_inj hy hq]; exact hx⟩, ⟨⟨y, ?_⟩, st2.1.at fun ob q => (sb.2 it (Ne.symm hne)).trans q, hne⟩, fun b hb => ?_⟩
    · rw [show ((i + 1 : Nat) : Int) = (i : Int) + 1 by omega]
      exact he'
    · have hb' : b < s.heap.objs.size := by
        rcases (show b = e ∨ b = it by simpa using hb) with rfl | rfl
        · exact hel
        · exact hil
      rw [upd_ne (Nat.ne_of_lt hb')]
      exact (hf b hb).1
  done := by
    intro X hP hw hK hc i pins s σ H E I hf st hg
    subst hP hw hK
    obtain ⟨⟨old, he⟩, hit, hne⟩ := st
    obtain ⟨xs, hq, hx⟩ := hg
    obtain ⟨its, rv, p, hz⟩ := I.tuple hq
    obtain ⟨f0, f1, f2, f3, f4, f5⟩ := hf it (by simp)
    have hl := rv.length
    have DT := Draws.tuple (prog := X.prog) (w := X.w) (A := X.A.in1) (I.ok.hd hc) it a hat its.toArray
    have hT : s.TypeIs (.ref e) "enumerate" := ⟨_, he, rfl⟩
    unfold pyNext
    refine wpAny_bind (wpAny_attempt (wpAny_callSpecial?_slot (name := Str.ofString "__next__") hT F.slot_enumerate_next
      (wpAny_call_entry F.slot_enumerate_next hT F.entry_enumerate_next ?_ (F.args_enumerate_next_1 _))))
    show wpAny _ _ (field (.ref e) 2 >>= _) _ _ _
    refine wpAny_bind (wpAny_field he rfl (x := .ref it) rfl ?_)
    refine wpAny_bind (wpAny_nextOf_tuple_end (I.ok.hd hc) hit (show s.heap.IsTuple a its.toArray from p) (by simp; omega) fun h' x he' hx' => ?_)
    obtain ⟨ob, ho, hcl⟩ := hx'
    refine wpAny_bind (wpAny_isInstance (T := "StopIteration") (b := true) ⟨ob, ho, hcl⟩ isSubtype_stop ?_)
    exact wpAny_pure ⟨rfl, I.turned (t' := s.toks) (fun b u hb q => he' b u hb q) f0 f1 f3 f4 f5⟩
  self := fun A i s Q E st h => let ⟨⟨_, he⟩, _⟩ := st; wpAny_pyIter_enum he h
def iEnumT (K : PySem.W.Frag) (te : TE) : TI := fun σ H R => te σ H fun v H1 => ∃ a xs, v = .ref a ∧ ((SqL K H1 a xs ∧ R (Ite K a) H1) ∨ (SqT K H1 a xs ∧ R (ItEnT K a) H1))
theorem pi_enumT {X : Cx} {e : Expr} {te : TE} {p pos tpos : Pos} {elts : List Expr} {kk : Nat} (hg : Gl X "enumerate") (hm : X.mg "enumerate" = none) (he : PE X e te) (hs : starEach [e] X.env = [(false, eval e X.env)]) :
    PI X (.Tuple elts kk tpos) (.Call (.Name "enumerate" p) [e] [] pos) (iEnumT X.K te) := by
  refine ⟨fun pins s σ H R I h => ?_⟩
  have ha : PA X [e] (tCons te tNil) := pa_cons he pa_nil hs
  let body : V → Hp → Prop := fun v H1 => ∃ a xs, v = .ref a ∧ ((SqL X.K H1 a xs ∧ R (Ite X.K a) H1) ∨ (SqT X.K H1 a xs ∧ R (ItEnT X.K a) H1))
  let Qa : List V → Hp → Prop := fun vs H1 => match vs with
    | [v] => body v H1
    | _ => False
  refine Call_ (ld_blt I hg hm boot_enumerate (PyProof.Rows.callWith_type1 (thn (ha.run pos pins s σ H Qa I h) fun us s1 ⟨vs, H1, I1, r1, q1⟩ => ?_) hs rfl))
  have q1' : ∃ v, vs = [v] ∧ body v H1 := by
    match vs, q1 with
    | [v], q => exact ⟨v, rfl, q⟩
  obtain ⟨v, rfl, a, xs, rfl, q⟩ := q1'
  · skip
    cases r1 with
    | cons r rr =>
      cases rr
      cases r
      have fresh : ∀ (b : Addr) (h' : Heap), (b = s1.heap.objs.size + 1 ∨ b = s1.heap.objs.size) → FpOk X pins H1 b := fun b h' e' => by
        have hle : s1.heap.objs.size ≤ b := by
          rcases e' with z | z
          · rw [z]; exact Nat.le_succ _
          · rw [z]; exact Nat.le_refl _
        exact I1.fpOk hle (I1.hok.fresh hle)
      rcases q with ⟨hq, q⟩ | ⟨hq, q⟩
      · obtain ⟨its, rv, p', hz⟩ := I1.list hq
        refine call_enumerate_list p'.isList fun h' he hit hsz hk => wpAny_pyIter_enum he ?_
        exact ⟨s1.heap.objs.size + 1, [s1.heap.objs.size + 1, s1.heap.objs.size], _, _, H1, rfl, I1.kept (t' := s1.toks) hk, turn_enum a (s1.heap.objs.size + 1) s1.heap.objs.size, ⟨⟨.none, he⟩, hit, Nat.succ_ne_self _⟩, fun b hb => fresh b h' (by simpa using hb), q⟩
      · obtain ⟨its, rv, p', hz⟩ := I1.tuple hq
        have hal : a < s1.heap.objs.size := p'.lt
        refine enum1_begins (begins_tuple a its.toArray) p' fun h' he hit hsz hk => wpAny_pyIter_enum he ?_
        exact ⟨s1.heap.objs.size + 1, [s1.heap.objs.size + 1, s1.heap.objs.size], _, _, H1, rfl, I1.kept (t' := s1.toks) hk, turn_enT a (s1.heap.objs.size + 1) s1.heap.objs.size (Nat.ne_of_lt hal) (Nat.ne_of_lt (Nat.lt_succ_of_lt hal)), ⟨⟨.none, he⟩, ⟨_, hit, rfl, rfl⟩, Nat.succ_ne_self _⟩, fun b hb => fresh b h' (by simpa using hb), q⟩
section
variable {X : Cx} {W : WX} {pos : Pos}
def iEnB (f : E3) (Γ : G3) (L : Lh) : R3 It3 := (f Γ L).bind fun x L1 => match tupI x with
  | some it => .val ⟨enumD it.xs, it.chk⟩ L1
  | none => (match seqI x L1 with
    | some it => .val ⟨enumD it.xs, it.chk⟩ L1
    | none => .stuck)
theorem itok_enumT {K : PySem.W.Frag} {ρ : List Addr} {H : Hp} {a : Addr} {it : It3} (hs : ∀ ρ' H' L', Ext ρ H ρ' H' → Ab K ρ' H' L' → it.chk L' → ∃ vs, SqT K H' a vs ∧ Reps K ρ' H' it.xs vs) : ItOk K ρ H (ItEnT K a) ⟨enumD it.xs, it.chk⟩ := by
  refine itok_pair (n := it.xs.length) (xs := fun i => some (D.int (i : Nat))) (ys := fun i => it.xs[i]?) (S := fun H vs us => vs = (fun i => some (V.int (i : Nat))) ∧ ∃ ws, SqT K H a ws ∧ ws.length = it.xs.length ∧ us = fun i => ws[i]?) (enumD_len _) (fun i x y hi h1 h2 => ?_) (fun ρ' H' L' e A c => ?_) (fun i H vs us hi h => ?_) (fun H vs us h => ?_) fun i H v H' hy => ?_
  · cases h1
    exact enumD_at h2
  · obtain ⟨ws, q1, q2⟩ := hs ρ' H' L' e A c
    exact ⟨_, _, ⟨rfl, ws, q1, q2.length, rfl⟩, fun i v _ h => ⟨_, rfl, by cases h; rfl⟩, fun i v _ h => q2.getV h⟩
  · obtain ⟨rfl, ws, h1, h2, rfl⟩ := h
    exact ⟨ws, ws[i]'(by omega), h1, List.getElem?_eq_getElem _⟩
  · obtain ⟨rfl, ws, h1, h2, rfl⟩ := h
    exact ⟨ws, h1, by omega⟩
  · obtain ⟨T, x, h1, h2, h3, h4⟩ := hy
    refine ⟨T, _, x, h1, h2, h3, fun vs us h => ?_⟩
    obtain ⟨rfl, ws, q1, q2, rfl⟩ := h
    exact ⟨rfl, h4 ws q1⟩
theorem i3_enumB {e : Expr} {f : E3} {p tpos : Pos} {elts : List Expr} {kk : Nat} (hm : X.mg "enumerate" = none) (he : PE3 X W e f) (hg : Gl X "enumerate" := by rfl) (hs : starEach [e] X.env = [(false, eval e X.env)] := by rfl) : PI3 X W (.Tuple elts kk tpos) (.Call (.Name "enumerate" p) [e] [] pos) (iEnB f) := by
  obtain ⟨te, pe, q⟩ := he
  refine ⟨_, pi_enumT hg hm pe hs, fun σ H ρ Γ L R E A h => ?_⟩
  refine q σ H ρ Γ L _ E A (hbind (ihold_eq h) fun x L1 vx H1 ρ1 e1 r1 A1 h1 => ?_)
  split at h1
  · rename_i it hit
    obtain ⟨a, rfl, ⟨vs, h2, hl⟩, h3⟩ := tupI_ok hit r1
    exact ⟨a, vs, rfl, .inr ⟨h2, h1.mk A1 (itok_enumT h3)⟩⟩
  · split at h1
    · rename_i it hit
      obtain ⟨a, rfl, ⟨vs, h2, hl⟩, h3⟩ := seqI_ok A1 hit r1
      exact ⟨a, vs, rfl, .inl ⟨h2, h1.mk A1 (itok_enum h3)⟩⟩
    · exact h1.elim
end
/-- a constant of the module -/
def Cst (K : PySem.W.Frag) (mg : Str → Option Value) (x : Str) (d : D) : Prop := ∃ v u, mg x = some u ∧ RelV v u ∧ ∀ ρ H, Rep K ρ H d v
theorem e3_cst {X : Cx} {W : WX} {pos : Pos} {x : Str} {d : D} (c : Cst X.K X.mg x d) (hg : Gl X x := by rfl) (hd : (x == ("__debug__" : Str)) = false := by decide) : PE3 X W (.Name x pos) (eC d) := by
  obtain ⟨v, u, h1, h2, h3⟩ := c
  exact e3_glob hg h1 h2 h3 hd
def dvD : D → He.Dv
  | .int i => .int i
  | .str x => .str x
  | .bl b => .bl b
  | _ => .non
def plainD : D → Bool
  | .int _ => true
  | .str _ => true
  | .bl _ => true
  | .non => true
  | _ => false
theorem reps_dv {K : PySem.W.Frag} {ρ : List Addr} {H : Hp} : ∀ (ds : List D), ds.all plainD = true → Reps K ρ H ds ((ds.map dvD).map (He.Dv.v K))
  | [], _ => rfl
  | x :: r, h => by
    rw [List.all_cons, Bool.and_eq_true] at h
    refine ⟨_, _, rfl, ?_, reps_dv r h.2⟩
    cases x <;> first | rfl | exact Bool.noConfusion h.1
theorem cst_tup {K : PySem.W.Frag} {mg : Str → Option Value} {x : Str} {ds : List D} (g : mg x = some (.ref (He.ga K x))) (h : He.tupB K x (ds.map dvD) = true) (hp : ds.all plainD = true) : Cst K mg x (.tup ds) :=
  ⟨.ref (He.ga K x), _, g, rfl, fun ρ H => ⟨_, _, rfl, He.tupB_ok h H, reps_dv ds hp⟩⟩
theorem cst_int {K : PySem.W.Frag} {mg : Str → Option Value} {x : Str} {i : Int} (g : ∃ t, mg x = some (.int i t)) : Cst K mg x (.int i) := by
  obtain ⟨t, g⟩ := g
  exact ⟨.int i, _, g, ⟨t, rfl⟩, fun _ _ => rfl⟩
theorem cst_str {K : PySem.W.Frag} {mg : Str → Option Value} {x z : Str} (g : ∃ t, mg x = some (.str z t)) : Cst K mg x (.str z) := by
  obtain ⟨t, g⟩ := g
  exact ⟨.str z, _, g, ⟨t, rfl⟩, fun _ _ => rfl⟩
/-- an own error class -/
structure Err (K : PySem.W.Frag) (mg : Str → Option Value) (x : Str) : Prop where
  gl : mg x = some (.ref (He.ga K x))
  ex : PySem.W.excIn K (He.ga K x) He.veBase "ValueError.__new__" = true
  kp : PySem.W.keepIn K (.ref (He.ga K x)) = true
  sb : PySem.W.subIn K (.ref (He.ga K x)) (.type "BaseException") = some true
  ty : PySem.W.typeIn K (.ref (He.ga K x)) = some (.type "type")
theorem err_of {K : PySem.W.Frag} {mg : Str → Option Value} {x : Str} (g : mg x = some (.ref (He.ga K x))) (c : (He.Fa.exc x).ok K = true) : Err K mg x := by
  have z := He.exc_ok c
  exact ⟨g, z.1, z.2.1, z.2.2.1, z.2.2.2⟩
theorem s3_err {X : Cx} {W : WX} {pos : Pos} {x m : Str} {j : Nat} {p p2 pos2 : Pos} (E : Err X.K X.mg x) (hc : X.calm = true) (tk : Takes X W) (hg : Gl X x := by rfl) (hdb : (x == ("__debug__" : Str)) = false := by decide) :
    PS3 X W (.Raise (some (.Call (.Name x p) [.Constant (.str m) j p2] [] pos)) none pos2) (sRaise x) :=
  s3_raise hc tk PySem.F.excBase_ValueError E.ex E.gl E.kp (raises_own E.sb E.ty) hg hdb
/-! ## long divisions: nobody looks on, and there is room for CPython's own way -/
structure Sr (X : Cx) : Prop where
  seer : X.base.NoSeer
  tree : X.prog.given.tree = none
  st : ∃ e l, X.stack = e :: l ∧ e.scope.isGenerator = false ∧ e.scope.isCoroutine = false ∧ e.builtins = builtinsNs ∧ e.globals = mainGlobals
theorem Sr.room {X : Cx} {pins : List (Addr × Obj)} {σ : L2.St} {H : Hp} {s : Shared} {k : Nat} (q : Sr X) (hr : Room k X.A) (hk : 35 ≤ k) (I : Inv X pins σ H s) : PylongRoom (model X.prog X.w) X.A s := by
  obtain ⟨e, l, e1, e2, e3, e4, e5⟩ := q.st
  refine PylongRoom.of I.nolimit ?_ (SeerAt.of (q.seer.keeps I.bk) q.tree (I.ok.frames.trans (congrArg some e1)) e2 e3 e4 e5)
  have := hr.dp
  have e : Builtin.pylongFrames = 100 := rfl
  omega
theorem op_fdiv4 {X : Cx} {k : Nat} (q : Sr X) (hr : Room k X.A) (hk : 35 ≤ k := by decide) : OpR X (binaryOp .FloorDiv) (rI (fun _ j => j ≠ 0) fun i j => .int (i.fdiv j)) := by
  intro pins s σ H x y v u Q I rx ry h
  obtain ⟨i, j, rfl, rfl, hc, q2⟩ := h
  obtain ⟨t, rfl⟩ := rx
  obtain ⟨t', rfl⟩ := ry
  exact floordiv_int hc ⟨.int (i.fdiv j), H, I.tok _, ⟨_, rfl⟩, q2⟩ (.inr (q.room hr hk I))
theorem noSeer_hid {h : Heap} {H : Hp} (n : h.NoSeer) (nb : ∀ b o, h.get? b = some o → (∀ es ep, o.data = .dict es ep → H b = none)) (nm : ∀ b o, h.get? b = some o → o.cls = .type "module" → H b = none) : (hidT h H).NoSeer := by
  have ns : ∀ {b : Addr} {m : Str → Option Value}, h.Ns b m → (hidT h H).Ns b m := fun {b m} z => by
    obtain ⟨o, es, ep, e, d, r⟩ := z
    exact ⟨o, es, ep, hidT_get e (nb b o e es ep d), d, r⟩
  obtain ⟨mc, a1, a2⟩ := n.statics
  obtain ⟨mm, b1, b2⟩ := n.mods
  obtain ⟨mb, c1, c2⟩ := n.imp
  obtain ⟨mg, bm, ob, d1, d2, d3, d4, d5⟩ := n.main
  exact ⟨⟨mc, ns a1, a2⟩, ⟨mm, ns b1, b2⟩, ⟨mb, ns c1, c2⟩, ⟨mg, bm, ob, ns d1, d2, hidT_get d3 (nm bm ob d3 d4), d4, d5⟩⟩
/-- the law's call, where nobody looks on -/
theorem law_call4 {P : Program} {w : World} {K : PySem.W.Frag} {mg mb : Str → Option Value} {CX : CXT} {k : Nat} {fa sa : Addr} {fd : FuncData} {x : Str} {sp : Sp} {t1 : Shared} {us : List Value} {js : List Int}
    (kin : K.In t1.heap) (gns : t1.heap.Ns mainGlobals mg) (bns : t1.heap.Ns builtinsNs mb) (bbt : ∀ x : Str, x ≠ "__name__" → mb x = bootBuiltins x) (lim : t1.heap.NoLimit) (see : t1.heap.NoSeer) (gen0 : t1.gens = #[])
    (hsa : t1.heap.get? sa = some { cls := .type "list", data := .seq us.toArray }) (intJ : IntsAre us js) (small : js.length ≤ sizeLine) (room : Room k callerA)
    (F : ∀ base : Heap, K.In base → base.Ns mainGlobals mg → base.NoSeer → FnOk P w K mg base CX k fa fd [x] sp) (bnd : ∀ (s : Shared) (u : Value), BindsTo s fd ⟨[u], []⟩ [(x, u)])
    (ask : ∀ H : Hp, Only H → SqL K H sa (js.map V.int) → sp [.ref sa] H (fun v _ => v = .bl true) fun _ _ _ => False)
    (noX : ∀ H e s', CX [] H t1 (fun _ _ _ => False) e s' → False) :
    codeAny (model P w) callerA (.call (.ref fa) ⟨[.ref sa], []⟩) (fun r t2 => r = .ok (.ret (.bool true)) ∧ OldK t1.heap t2.heap ∧ t2.os = t1.os ∧ AllBare t2.gens) t1 := by
  have relV := vals_ints intJ
  have lenE := intJ.length
  have main : ∀ H : Hp, Only H → SqL K H sa (js.map V.int) → HOk P w H t1.heap → (∀ b, H b ≠ none → b = sa) → (H sa ≠ none → K.lookup sa = none) →
      codeAny (model P w) callerA (.call (.ref fa) ⟨[.ref sa], []⟩) (fun r t2 => r = .ok (.ret (.bool true)) ∧ OldK t1.heap t2.heap ∧ t2.os = t1.os ∧ AllBare t2.gens) t1 := by
    intro H only sq hok alone notK
    have free : ∀ (b : Addr) (o : Obj), t1.heap.get? b = some o → o ≠ { cls := .type "list", data := .seq us.toArray } → H b = none := fun b o e ne => by
      by_cases q : H b = none
      · exact q
      · have e2 := alone b q
        rw [e2, hsa] at e
        exact absurd (Option.some.inj e).symm ne
    have freeD : ∀ (b : Addr) (o : Obj), t1.heap.get? b = some o → ∀ es ep, o.data = .dict es ep → H b = none := fun b o e es ep d => free b o e fun z => by
      rw [z] at d
      have d2 : Data.seq us.toArray _ = Data.dict es ep := d
      cases d2
    have freeM : ∀ (b : Addr) (o : Obj), t1.heap.get? b = some o → o.cls = .type "module" → H b = none := fun b o e c => free b o e fun z => by
      rw [z] at c
      have c2 : Value.type "list" = Value.type "module" := c
      injection c2 with c3
      exact absurd c3 (by decide)
    have hid : ∀ {b : Addr} {m : Str → Option Value}, t1.heap.Ns b m → (hidT t1.heap H).Ns b m := fun {b m} z => by
      obtain ⟨o, es, ep, e, d, r⟩ := z
      exact ⟨o, es, ep, hidT_get e (freeD b o e es ep d), d, r⟩
    have kinB : K.In (hidT t1.heap H) := fun b o e => hidT_get (kin b o e) (by
      by_cases q : H b = none
      · exact q
      · have e2 := alone b q
        subst e2
        rw [notK q] at e
        cases e)
    have limB : (hidT t1.heap H).NoLimit := by
      obtain ⟨mc, h1, h2⟩ := lim
      exact ⟨mc, hid h1, h2⟩
    have md : Mod K mg (hidT t1.heap H) := ⟨kinB, hid gns, ⟨mb, hid bns, bbt⟩, limB⟩
    have see2 := noSeer_hid (H := H) see freeD freeM
    have start : Env0 P w K mg (hidT t1.heap H) callerA [] t1 H := ⟨rfl, md, fun b o e => of_hidT e, Nat.le_of_eq (hidT_size _ _), trivial, fun b hb => (nomatch (show b ∈ ([] : List Addr) from hb)), hok, .of_eq gen0⟩
    have go := (F _ kinB (hid gns) see2).run callerA [] t1 H ⟨[.ref sa], []⟩ [.ref sa] [.ref sa] _ _ room start (bnd t1 (.ref sa)) (.cons rfl .nil) (ask H only sq)
    refine codeAny_mono go fun r t2 h => ?_
    match r, h with
    | .error e, h => exact (noX H e t2 h).elim
    | .ok .next, h => exact False.elim h
    | .ok .brk, h => exact False.elim h
    | .ok .cont, h => exact False.elim h
    | .ok (.ret u), h =>
      obtain ⟨v, H', os, bare, un, hok', rel, (hv : v = .bl true)⟩ := h
      subst hv
      obtain rfl : u = Value.bool true := rel
      refine ⟨rfl, OldK.of_keep fun b o e => ?_, os, bare⟩
      rcases only b with z | ⟨ob, xs, z⟩
      · exact un.keep b o e z (fun w => nomatch (show b ∈ ([] : List Addr) from w)) (by simp)
      · obtain ⟨q1, _⟩ := hok b _ z
        obtain ⟨q2, _⟩ := hok' b _ (un.frzs b ob _ z)
        rw [e] at q1
        cases q1
        exact q2
  by_cases hk : K.lookup sa = none
  · refine main (fun b => if b = sa then some (.frz { cls := .type "list", data := .seq us.toArray } (.lst (js.map V.int))) else none) (fun b => ?_) (.inl (.inr ⟨_, if_pos rfl⟩)) (fun b u z => ?_) (fun b z => ?_) fun _ => hk
    · by_cases e : b = sa
      · exact .inr ⟨_, _, if_pos e⟩
      · exact .inl (if_neg e)
    · by_cases e : b = sa
      · have z2 := (if_pos e).symm.trans z
        cases z2
        rw [e]
        exact ⟨hsa, by rw [List.length_map]; exact small, us, _, relV, hsa⟩
      · have z2 := (if_neg e).symm.trans z
        cases z2
    · by_cases e : b = sa
      · exact e
      · exact absurd (if_neg e) z
  · obtain ⟨o, ho⟩ := Option.ne_none_iff_exists'.mp hk
    have e := kin sa o ho
    rw [hsa] at e
    cases e
    refine main (fun _ => none) (fun _ => .inl rfl) (.inr ⟨_, us.toArray, _, ho, rfl, rfl, rfl, ?_, ?_⟩) (fun b u z => ?_) (fun b z => absurd rfl z) fun z => absurd rfl z
    · rw [List.size_toArray, lenE]; exact small
    · simpa using relV
    · have z2 : (none : Option HO) = some u := z
      cases z2
/-- the end of a law, where nobody looks on -/
theorem law_walk4 {lw : PySem.W.OpenLaw} {n k : Nat} {qq : Program} {ls : List Str} {Xp : (Str → Option Value) → Heap → Prop} {Yp : World → Heap → Prop} {dr : DefRec} {x : Str} {fn : Fn3}
    (hm : lw.most = some n) (hz : n ≤ sizeLine) (hd0 : dr.params.defaults = []) (room : Room k callerA) (him : importsNone qq = true)
    (get : ∀ (w : World) (mg : Str → Option Value) (fa : Addr) (h : Heap), Yp w h → h.Ns mainGlobals mg → mg dr.name = some (.ref fa) → ∃ (K : PySem.W.Frag) (fd : FuncData), K.In h ∧
      (∀ (s : Shared) (u : Value), BindsTo s fd ⟨[u], []⟩ [(x, u)]) ∧ ∀ base : Heap, K.In base → base.Ns mainGlobals mg → base.NoSeer → FnOk lw.prog w K mg base (L2.CX lw.prog w) k fa fd [x] (emb K fn))
    (holds : ∀ ns : List Int, ns.length ≤ n → ∃ L, fn [.rol (ns.map D.int)] [] = .val (.bl true) L) :
    PySem.W.WalkO qq ls Xp Yp lw.row.toRowW dr [] (fun f vs => PySem.call f vs) := by
  refine Att.attach_call hm hd0 ?_
  intro w t0 t1 mg mb fa ob m1 m2 m3 ad us js Gd Yd e1 e2 e3 e4 e5 e6 e7 e8
  obtain ⟨K, fd, inK, bnd, ok⟩ := get w mg fa _ Yd Gd.T.g e4
  refine law_call4 inK Gd.T.g Gd.T.b Gd.T.builtins Gd.T.nolimit (Gd.T.seer him) e8 e5 e6
    (Nat.le_trans e7 hz) room ok bnd
    (fun H only sq => law_emb (holds js e7) only sq) ?_
  intro H ev t' z
  obtain ⟨_, _, _, _, _, _, _, _, _, _, _, _, y⟩ := z
  exact y.elim
@[simp] theorem fAdd_int {i j : Int} {L : Lh} : fAdd (.int i) (.int j) L = .val (.int (i + j)) L := rfl
@[simp] theorem fMul_int {i j : Int} {L : Lh} (h : CMulX i j) : fMul (.int i) (.int j) L = .val (.int (i * j)) L := by
  show (if CMulX i j then _ else _) = _
  rw [if_pos h]
theorem fIx_tupS {xs : List D} {i : Int} {d : D} {L : Lh} (h : L2.atI xs i = some d) : fIx (.tup xs) (.int i) L = .val d L := by
  show (match itemsT (.tup xs) L with | some xs => (match L2.atI xs i with | some d => R3.val d L | none => .stuck) | none => .stuck) = _
  simp only [itemsT_tup, h]
theorem fIx_listS {x : D} {xs : List D} {i : Int} {d : D} {L : Lh} (hx : itemsT x L = some xs) (h : L2.atI xs i = some d) : fIx x (.int i) L = .val d L := by
  show (match itemsT x L with | some xs => (match L2.atI xs i with | some d => R3.val d L | none => .stuck) | none => .stuck) = _
  simp only [hx, h]
/-! ## what holds behind: continuations -/
def wpR {α : Type} (r : R3 α) (Q : α → Lh → Prop) (E : Str → Lh → Prop) : Prop := match r with
  | .val a L => Q a L
  | .exn c L => E c L
  | .stuck => False
structure Po where
  nx : G3 → Lh → Prop
  rt : D → Lh → Prop
  bk : G3 → Lh → Prop
  ct : G3 → Lh → Prop
  ex : Str → G3 → Lh → Prop
def wpS (o : Out) (P : Po) : Prop := match o with
  | .nx Γ L => P.nx Γ L
  | .ret d L => P.rt d L
  | .brk Γ L => P.bk Γ L
  | .ct Γ L => P.ct Γ L
  | .exn c Γ L => P.ex c Γ L
  | .stuck => False
def noE (_ : Str) (_ : Lh) : Prop := False
/-- errors within a statement -/
@[simp] def Po.exk (P : Po) (Γ : G3) (c : Str) (L : Lh) : Prop := P.ex c Γ L
@[simp] def kB {α β : Type} (f : α → Lh → R3 β) (Q : β → Lh → Prop) (E : Str → Lh → Prop) (a : α) (L : Lh) : Prop := wpR (f a L) Q E
@[simp] def kO {α : Type} (k : α → Lh → Out) (P : Po) (a : α) (L : Lh) : Prop := wpS (k a L) P
section
variable {α β : Type} {Q : α → Lh → Prop} {E : Str → Lh → Prop} {P : Po} {Γ : G3} {L : Lh}
@[simp] theorem wpR_val {a : α} : wpR (.val a L) Q E = Q a L := rfl
@[simp] theorem wpR_exn {c : Str} : wpR (.exn c L : R3 α) Q E = E c L := rfl
@[simp] theorem wpS_nx : wpS (.nx Γ L) P = P.nx Γ L := rfl
@[simp] theorem wpS_ret {d : D} : wpS (.ret d L) P = P.rt d L := rfl
@[simp] theorem wpS_brk : wpS (.brk Γ L) P = P.bk Γ L := rfl
@[simp] theorem wpS_ct : wpS (.ct Γ L) P = P.ct Γ L := rfl
@[simp] theorem wpS_exn {c : Str} : wpS (.exn c Γ L) P = P.ex c Γ L := rfl
theorem wpR_bind' {r : R3 α} {f : α → Lh → R3 β} {Q : β → Lh → Prop} : wpR (r.bind f) Q E = wpR r (fun a L1 => wpR (f a L1) Q E) E := by cases r <;> rfl
@[simp ↓] theorem wpR_bind {r : R3 α} {f : α → Lh → R3 β} {Q : β → Lh → Prop} : wpR (r.bind f) Q E = wpR r (kB f Q E) E := wpR_bind'
theorem wpS_out' {r : R3 α} {k : α → Lh → Out} : wpS (r.out Γ k) P = wpR r (fun a L1 => wpS (k a L1) P) (fun c L1 => P.ex c Γ L1) := by cases r <;> rfl
@[simp ↓] theorem wpS_out {r : R3 α} {k : α → Lh → Out} : wpS (r.out Γ k) P = wpR r (kO k P) (P.exk Γ) := wpS_out'
theorem wpR.mono {r : R3 α} {Q Q' : α → Lh → Prop} {E E' : Str → Lh → Prop} (h : wpR r Q E) (hq : ∀ a L, Q a L → Q' a L) (he : ∀ c L, E c L → E' c L) : wpR r Q' E' := by
  cases r with
  | val a L => exact hq a L h
  | exn c L => exact he c L h
  | stuck => exact h
/-- the answer is known -/
theorem wpR.of {r : R3 α} {a : α} {L1 : Lh} (e : r = .val a L1) (h : Q a L1) : wpR r Q E := by rw [e]; exact h
theorem wpR.eq {r : R3 α} {a : α} (h : wpR r (fun b L1 => b = a ∧ L1 = L) noE) : r = .val a L := by
  cases r with
  | val b L1 => obtain ⟨rfl, rfl⟩ := h; rfl
  | exn c L => exact h.elim
  | stuck => exact h.elim
theorem wpR.ex {r : R3 α} (h : wpR r Q noE) : ∃ a L1, r = .val a L1 ∧ Q a L1 := by
  cases r with
  | val b L1 => exact ⟨b, L1, rfl, h⟩
  | exn c L => exact h.elim
  | stuck => exact h.elim
/-! choices -/
def cndR (b : Bool) (x y : R3 α) : R3 α := if b = true then x else y
def cndS (b : Bool) (t u : S3) (Γ : G3) (L : Lh) : Out := if b = true then t Γ L else u Γ L
def cndE (b : Bool) (t u : G3 → Lh → R3 α) (Γ : G3) (L : Lh) : R3 α := if b = true then t Γ L else u Γ L
@[simp] theorem wp_cndS_true {t u : S3} : wpS (cndS true t u Γ L) P = wpS (t Γ L) P := rfl
@[simp] theorem wp_cndS_false {t u : S3} : wpS (cndS false t u Γ L) P = wpS (u Γ L) P := rfl
@[simp] theorem wp_cndE_true {t u : G3 → Lh → R3 α} : wpR (cndE true t u Γ L) Q E = wpR (t Γ L) Q E := rfl
@[simp] theorem wp_cndE_false {t u : G3 → Lh → R3 α} : wpR (cndE false t u Γ L) Q E = wpR (u Γ L) Q E := rfl
theorem wp_cndS {b : Bool} {t u : S3} (h1 : b = true → wpS (t Γ L) P) (h2 : b = false → wpS (u Γ L) P) : wpS (cndS b t u Γ L) P := by
  cases b with
  | true => exact h1 rfl
  | false => exact h2 rfl
theorem wp_cndE {b : Bool} {t u : G3 → Lh → R3 α} (h1 : b = true → wpR (t Γ L) Q E) (h2 : b = false → wpR (u Γ L) Q E) : wpR (cndE b t u Γ L) Q E := by
  cases b with
  | true => exact h1 rfl
  | false => exact h2 rfl
/-- an if by what is tested -/
theorem wp_if {p : Prop} [Decidable p] {t u : S3} (h1 : p → wpS (t Γ L) P) (h2 : ¬ p → wpS (u Γ L) P) : wpS (cndS (decide p) t u Γ L) P := by
  by_cases h : p
  · rw [decide_eq_true h]; exact h1 h
  · rw [decide_eq_false h]; exact h2 h
theorem wp_ifE {p : Prop} [Decidable p] {t u : G3 → Lh → R3 α} (h1 : p → wpR (t Γ L) Q E) (h2 : ¬ p → wpR (u Γ L) Q E) : wpR (cndE (decide p) t u Γ L) Q E := by
  by_cases h : p
  · rw [decide_eq_true h]; exact h1 h
  · rw [decide_eq_false h]; exact h2 h
end
section
variable {Q : D → Lh → Prop} {E : Str → Lh → Prop} {Γ : G3} {L : Lh}
/-! expressions -/
@[simp] def kOp2 (f : Op3) (x : D) (Q : D → Lh → Prop) (E : Str → Lh → Prop) (y : D) (L : Lh) : Prop := wpR (f x y L) Q E
@[simp] def kOp1 (f : Op3) (b : E3) (Γ : G3) (Q : D → Lh → Prop) (E : Str → Lh → Prop) (x : D) (L : Lh) : Prop := wpR (b Γ L) (kOp2 f x Q E) E
theorem wpR_bind2 {α β : Type} {r : R3 α} {f : α → Lh → R3 β} {Q : β → Lh → Prop} {E : Str → Lh → Prop} {Q' : α → Lh → Prop} (h : ∀ a L, Q' a L = wpR (f a L) Q E) : wpR (r.bind f) Q E = wpR r Q' E := by
  rw [wpR_bind']; congr; funext a L; exact (h a L).symm
@[simp ↓] theorem wp_eOp {f : Op3} {a b : E3} : wpR (eOp f a b Γ L) Q E = wpR (a Γ L) (kOp1 f b Γ Q E) E := wpR_bind2 fun _ _ => Eq.symm wpR_bind'
@[simp] def kUn (f : Un3) (Q : D → Lh → Prop) (E : Str → Lh → Prop) (x : D) (L : Lh) : Prop := wpR (f x L) Q E
@[simp ↓] theorem wp_eUn {f : Un3} {a : E3} : wpR (eUn f a Γ L) Q E = wpR (a Γ L) (kUn f Q E) E := wpR_bind'
@[simp ↓] theorem wp_aNil {Q : List D → Lh → Prop} : wpR (aNil Γ L) Q E = Q [] L := rfl
@[simp] def kA2 (x : D) (Q : List D → Lh → Prop) (xs : List D) (L : Lh) : Prop := Q (x :: xs) L
@[simp] def kA1 (g : A3) (Γ : G3) (Q : List D → Lh → Prop) (E : Str → Lh → Prop) (x : D) (L : Lh) : Prop := wpR (g Γ L) (kA2 x Q) E
@[simp ↓] theorem wp_aCons {Q : List D → Lh → Prop} {f : E3} {g : A3} : wpR (aCons f g Γ L) Q E = wpR (f Γ L) (kA1 g Γ Q E) E := wpR_bind2 fun _ _ => Eq.symm wpR_bind'
def tupR (xs : List D) (L : Lh) : R3 D := if xs.length ≤ 1000 then .val (.tup xs) L else .stuck
def lstR (xs : List D) (L : Lh) : R3 D := if xs.length ≤ 1000 then .val (.loc L.length) (L ++ [.lst xs]) else .stuck
@[simp] def keTup (Q : D → Lh → Prop) (E : Str → Lh → Prop) (xs : List D) (L : Lh) : Prop := wpR (tupR xs L) Q E
@[simp ↓] theorem wp_eTup {g : A3} : wpR (eTup g Γ L) Q E = wpR (g Γ L) (keTup Q E) E := wpR_bind'
@[simp] def keLst (Q : D → Lh → Prop) (E : Str → Lh → Prop) (xs : List D) (L : Lh) : Prop := wpR (lstR xs L) Q E
@[simp ↓] theorem wp_eLst {g : A3} : wpR (eLst g Γ L) Q E = wpR (g Γ L) (keLst Q E) E := wpR_bind'
@[simp] theorem tupR_nil : tupR [] L = .val (.tup []) L := rfl
@[simp] theorem tupR_1 {a : D} : tupR [a] L = .val (.tup [a]) L := rfl
@[simp] theorem tupR_2 {a b : D} : tupR [a, b] L = .val (.tup [a, b]) L := rfl
@[simp] theorem tupR_3 {a b c : D} : tupR [a, b, c] L = .val (.tup [a, b, c]) L := rfl
@[simp] theorem tupR_4 {a b c d : D} : tupR [a, b, c, d] L = .val (.tup [a, b, c, d]) L := rfl
@[simp] theorem tupR_5 {a b c d e : D} : tupR [a, b, c, d, e] L = .val (.tup [a, b, c, d, e]) L := rfl
@[simp] theorem tupR_6 {a b c d e f : D} : tupR [a, b, c, d, e, f] L = .val (.tup [a, b, c, d, e, f]) L := rfl
@[simp] theorem lstR_nil : lstR [] L = .val (.loc L.length) (L ++ [.lst []]) := rfl
@[simp] theorem lstR_1 {a : D} : lstR [a] L = .val (.loc L.length) (L ++ [.lst [a]]) := rfl
@[simp] theorem lstR_2 {a b : D} : lstR [a, b] L = .val (.loc L.length) (L ++ [.lst [a, b]]) := rfl
@[simp] theorem lstR_3 {a b c : D} : lstR [a, b, c] L = .val (.loc L.length) (L ++ [.lst [a, b, c]]) := rfl
@[simp] theorem lstR_4 {a b c d : D} : lstR [a, b, c, d] L = .val (.loc L.length) (L ++ [.lst [a, b, c, d]]) := rfl
@[simp] theorem lstR_5 {a b c d e : D} : lstR [a, b, c, d, e] L = .val (.loc L.length) (L ++ [.lst [a, b, c, d, e]]) := rfl
@[simp] theorem lstR_6 {a b c d e f : D} : lstR [a, b, c, d, e, f] L = .val (.loc L.length) (L ++ [.lst [a, b, c, d, e, f]]) := rfl
@[simp] def kCall (f : Fn3) (Q : D → Lh → Prop) (E : Str → Lh → Prop) (xs : List D) (L : Lh) : Prop := wpR (f xs L) Q E
@[simp ↓] theorem wp_eCall {f : Fn3} {g : A3} : wpR (eCall f g Γ L) Q E = wpR (g Γ L) (kCall f Q E) E := wpR_bind'
def mtR (T : String) (f : D → List D → Lh → R3 D) (g : A3) (Γ : G3) (x : D) (L : Lh) : R3 D := if isTy T x L = true then (g Γ L).bind fun xs L2 => f x xs L2 else .stuck
@[simp] def kMt (T : String) (f : D → List D → Lh → R3 D) (g : A3) (Γ : G3) (Q : D → Lh → Prop) (E : Str → Lh → Prop) (x : D) (L : Lh) : Prop := wpR (mtR T f g Γ x L) Q E
@[simp ↓] theorem wp_eMt {T : String} {f : D → List D → Lh → R3 D} {fo : E3} {g : A3} : wpR (eMt T f fo g Γ L) Q E = wpR (fo Γ L) (kMt T f g Γ Q E) E := wpR_bind'
@[simp] def kMt2 (f : D → List D → Lh → R3 D) (x : D) (Q : D → Lh → Prop) (E : Str → Lh → Prop) (xs : List D) (L : Lh) : Prop := wpR (f x xs L) Q E
theorem wp_mtR {T : String} {f : D → List D → Lh → R3 D} {g : A3} {x : D} (h : isTy T x L = true) : wpR (mtR T f g Γ x L) Q E = wpR (g Γ L) (kMt2 f x Q E) E := by unfold mtR; rw [if_pos h]; exact wpR_bind'
@[simp ↓] theorem wp_mtL {n : Nat} {xs : List D} {f : D → List D → Lh → R3 D} {g : A3} (h : L[n]? = some (.lst xs)) : wpR (mtR "list" f g Γ (.loc n) L) Q E = wpR (g Γ L) (kMt2 f (.loc n) Q E) E := wp_mtR (isTy_list h)
def mt0R (T : String) (f : D → List D → Lh → R3 D) (x : D) (L : Lh) : R3 D := if isTy T x L = true then f x [] L else .stuck
@[simp] def kMt0 (T : String) (f : D → List D → Lh → R3 D) (Q : D → Lh → Prop) (E : Str → Lh → Prop) (x : D) (L : Lh) : Prop := wpR (mt0R T f x L) Q E
@[simp ↓] theorem wp_eMt0 {T : String} {f : D → List D → Lh → R3 D} {fo : E3} : wpR (eMt0 T f fo Γ L) Q E = wpR (fo Γ L) (kMt0 T f Q E) E := wpR_bind'
@[simp] theorem mt0R_L {n : Nat} {xs : List D} {f : D → List D → Lh → R3 D} (h : L[n]? = some (.lst xs)) : mt0R "list" f (.loc n) L = f (.loc n) [] L := by unfold mt0R; rw [if_pos (isTy_list h)]
@[simp] def kIf {α : Type} (a b : G3 → Lh → R3 α) (Γ : G3) (Q : α → Lh → Prop) (E : Str → Lh → Prop) (c : Bool) (L : Lh) : Prop := wpR (cndE c a b Γ L) Q E
@[simp ↓] theorem wp_eIf {t : T3} {a b : E3} : wpR (eIf t a b Γ L) Q E = wpR (t Γ L) (kIf a b Γ Q E) E := wpR_bind'
@[simp] def kTE (Q : Bool → Lh → Prop) (E : Str → Lh → Prop) (x : D) (L : Lh) : Prop := wpR (asB x L) Q E
@[simp ↓] theorem wp_tE {f : E3} {Q : Bool → Lh → Prop} : wpR (tE f Γ L) Q E = wpR (f Γ L) (kTE Q E) E := wpR_bind'
def tTr : T3 := fun _ L => .val true L
def tFa : T3 := fun _ L => .val false L
@[simp] theorem tTr_ap : tTr Γ L = .val true L := rfl
@[simp] theorem tFa_ap : tFa Γ L = .val false L := rfl
@[simp ↓] theorem wp_tAnd {f g : T3} {Q : Bool → Lh → Prop} : wpR (tAnd3 f g Γ L) Q E = wpR (f Γ L) (kIf g tFa Γ Q E) E := wpR_bind'
@[simp ↓] theorem wp_tOr {f g : T3} {Q : Bool → Lh → Prop} : wpR (tOr3 f g Γ L) Q E = wpR (f Γ L) (kIf tTr g Γ Q E) E := wpR_bind'
@[simp] def kNot (Q : Bool → Lh → Prop) (c : Bool) (L : Lh) : Prop := Q (!c) L
@[simp ↓] theorem wp_tNot {f : T3} {Q : Bool → Lh → Prop} : wpR (tNot3 f Γ L) Q E = wpR (f Γ L) (kNot Q) E := wpR_bind'
def eTr : E3 := fun _ L => .val (.bl true) L
def eFa : E3 := fun _ L => .val (.bl false) L
@[simp] theorem eTr_ap : eTr Γ L = .val (.bl true) L := rfl
@[simp] theorem eFa_ap : eFa Γ L = .val (.bl false) L := rfl
def andR (g : E3) (Γ : G3) (x : D) (L : Lh) : R3 D := match x with
  | .bl b => cndE b g eFa Γ L
  | _ => .stuck
def orR (g : E3) (Γ : G3) (x : D) (L : Lh) : R3 D := match x with
  | .bl b => cndE b eTr g Γ L
  | _ => .stuck
@[simp] theorem andR_bl {g : E3} {b : Bool} : andR g Γ (.bl b) L = cndE b g eFa Γ L := rfl
@[simp] theorem orR_bl {g : E3} {b : Bool} : orR g Γ (.bl b) L = cndE b eTr g Γ L := rfl
@[simp] def kAnd (g : E3) (Γ : G3) (Q : D → Lh → Prop) (E : Str → Lh → Prop) (x : D) (L : Lh) : Prop := wpR (andR g Γ x L) Q E
@[simp ↓] theorem wp_eAnd {f g : E3} : wpR (eAnd f g Γ L) Q E = wpR (f Γ L) (kAnd g Γ Q E) E := wpR_bind2 fun x L1 => by
  unfold kAnd andR; cases x <;> try rfl
  rename_i b; cases b <;> rfl
@[simp] def kOr (g : E3) (Γ : G3) (Q : D → Lh → Prop) (E : Str → Lh → Prop) (x : D) (L : Lh) : Prop := wpR (orR g Γ x L) Q E
@[simp ↓] theorem wp_eOr {f g : E3} : wpR (eOr f g Γ L) Q E = wpR (f Γ L) (kOr g Γ Q E) E := wpR_bind2 fun x L1 => by
  unfold kOr orR; cases x <;> try rfl
  rename_i b; cases b <;> rfl
def soR (d : D) (L : Lh) : R3 (Option Int) := match d with
  | .int i => .val (some i) L
  | _ => .stuck
@[simp] theorem soR_int {i : Int} : soR (.int i) L = .val (some i) L := rfl
@[simp] def kSo (Q : Option Int → Lh → Prop) (E : Str → Lh → Prop) (d : D) (L : Lh) : Prop := wpR (soR d L) Q E
@[simp ↓] theorem wp_oSo {f : E3} {Q : Option Int → Lh → Prop} : wpR (oSo f Γ L) Q E = wpR (f Γ L) (kSo Q E) E := wpR_bind'
@[simp ↓] theorem wp_oNo {Q : Option Int → Lh → Prop} : wpR (oNo Γ L) Q E = Q none L := rfl
@[simp] def kSl3 (x : D) (a : Option Int) (Q : D → Lh → Prop) (E : Str → Lh → Prop) (b : Option Int) (L : Lh) : Prop := wpR (sliceD x a b L) Q E
@[simp] def kSl2 (hi : O3) (Γ : G3) (x : D) (Q : D → Lh → Prop) (E : Str → Lh → Prop) (a : Option Int) (L : Lh) : Prop := wpR (hi Γ L) (kSl3 x a Q E) E
@[simp] def kSl1 (lo hi : O3) (Γ : G3) (Q : D → Lh → Prop) (E : Str → Lh → Prop) (x : D) (L : Lh) : Prop := wpR (lo Γ L) (kSl2 hi Γ x Q E) E
@[simp ↓] theorem wp_eSl {f : E3} {lo hi : O3} : wpR (eSl f lo hi Γ L) Q E = wpR (f Γ L) (kSl1 lo hi Γ Q E) E := wpR_bind2 fun _ _ => Eq.symm (wpR_bind2 fun _ _ => Eq.symm wpR_bind')
@[simp] def kLc (g : Tg3) (t : T3) (e : E3) (own : List Nat) (Γ : G3) (Q : D → Lh → Prop) (E : Str → Lh → Prop) (it : It3) (L : Lh) : Prop := wpR (lcL it.chk g t e (wipe3 Γ own) L.length it.xs (L ++ [.lst []])) Q E
@[simp ↓] theorem wp_eLc {f : I3} {g : Tg3} {t : T3} {e : E3} {own : List Nat} : wpR (eLc f g t e own Γ L) Q E = wpR (f Γ L) (kLc g t e own Γ Q E) E := wpR_bind'
/-! what is walked -/
def ltR (x : D) (L : Lh) : R3 It3 := match tupI x with
  | some it => .val it L
  | none => (match seqI x L with
    | some it => .val it L
    | none => .stuck)
@[simp] def kiLT (Q : It3 → Lh → Prop) (E : Str → Lh → Prop) (x : D) (L : Lh) : Prop := wpR (ltR x L) Q E
@[simp ↓] theorem wp_iLT {f : E3} {Q : It3 → Lh → Prop} : wpR (iLT f Γ L) Q E = wpR (f Γ L) (kiLT Q E) E := wpR_bind'
@[simp] theorem ltR_tup {xs : List D} : ltR (.tup xs) L = .val ⟨xs, fun _ => True⟩ L := rfl
@[simp] theorem ltR_rol {xs : List D} : ltR (.rol xs) L = .val ⟨xs, fun _ => True⟩ L := rfl
@[simp] theorem ltR_loc {n : Nat} {xs : List D} (h : L[n]? = some (.lst xs)) : ltR (.loc n) L = .val ⟨xs, fun L' => L'[n]? = some (.lst xs)⟩ L := by
  show (match seqI (.loc n) L with | some it => R3.val it L | none => .stuck) = _
  rw [seqI_loc h]
def r1R (as : List D) (L : Lh) : R3 It3 := match as with
  | [.int j] => if -1000000 ≤ j ∧ j ≤ 1000000 then .val ⟨rngD 0 j.toNat, fun _ => True⟩ L else .stuck
  | _ => .stuck
@[simp] theorem r1R_nat {n : Nat} (h : n ≤ 1000000) : r1R [.int (n : Int)] L = .val ⟨rngD 0 n, fun _ => True⟩ L := by
  show (if _ then _ else _) = _
  rw [if_pos (by omega)]; simp
theorem r1R_int {j : Int} (h0 : 0 ≤ j) (h : j ≤ 1000000) : r1R [.int j] L = .val ⟨rngD 0 j.toNat, fun _ => True⟩ L := by
  show (if _ then _ else _) = _
  rw [if_pos (by omega)]
theorem r1R_of {j : Int} (n : Nat) (h0 : j = (n : Int)) (h : n ≤ 1000000) : r1R [.int j] L = .val ⟨rngD 0 n, fun _ => True⟩ L := by subst h0; exact r1R_nat h
@[simp] def kiR1 (Q : It3 → Lh → Prop) (E : Str → Lh → Prop) (x : List D) (L : Lh) : Prop := wpR (r1R x L) Q E
@[simp ↓] theorem wp_iR1 {g : A3} {Q : It3 → Lh → Prop} : wpR (iR1 g Γ L) Q E = wpR (g Γ L) (kiR1 Q E) E := wpR_bind'
def r2R (as : List D) (L : Lh) : R3 It3 := match as with
  | [.int i, .int j] => if (-1000000 ≤ i ∧ i ≤ 1000000) ∧ -1000000 ≤ j ∧ j ≤ 1000000 then .val ⟨rngD i (j - i).toNat, fun _ => True⟩ L else .stuck
  | _ => .stuck
theorem r2R_of {i j : Int} (n : Nat) (h0 : j - i = (n : Int)) (h : -1000000 ≤ i ∧ i ≤ 1000000 ∧ n ≤ 100000 ∧ j ≤ 1000000) : r2R [.int i, .int j] L = .val ⟨rngD i n, fun _ => True⟩ L := by
  show (if _ then _ else _) = _
  rw [if_pos (by omega), show (j - i).toNat = n by omega]
@[simp] def kiR2 (Q : It3 → Lh → Prop) (E : Str → Lh → Prop) (x : List D) (L : Lh) : Prop := wpR (r2R x L) Q E
@[simp ↓] theorem wp_iR2 {g : A3} {Q : It3 → Lh → Prop} : wpR (iR2 g Γ L) Q E = wpR (g Γ L) (kiR2 Q E) E := wpR_bind'
def revR (x : D) (L : Lh) : R3 It3 := match tupI x with
  | some it => .val ⟨it.xs.reverse, it.chk⟩ L
  | none => (match seqI x L with
    | some it => .val ⟨it.xs.reverse, it.chk⟩ L
    | none => .stuck)
@[simp] def kiRev (Q : It3 → Lh → Prop) (E : Str → Lh → Prop) (x : D) (L : Lh) : Prop := wpR (revR x L) Q E
@[simp ↓] theorem wp_iRev {f : E3} {Q : It3 → Lh → Prop} : wpR (iRev f Γ L) Q E = wpR (f Γ L) (kiRev Q E) E := wpR_bind'
@[simp] theorem revR_tup {xs : List D} : revR (.tup xs) L = .val ⟨xs.reverse, fun _ => True⟩ L := rfl
@[simp] theorem revR_loc {n : Nat} {xs : List D} (h : L[n]? = some (.lst xs)) : revR (.loc n) L = .val ⟨xs.reverse, fun L' => L'[n]? = some (.lst xs)⟩ L := by
  show (match seqI (.loc n) L with | some it => R3.val (It3.mk it.xs.reverse it.chk) L | none => .stuck) = _
  rw [seqI_loc h]
def enR (x : D) (L : Lh) : R3 It3 := match tupI x with
  | some it => .val ⟨enumD it.xs, it.chk⟩ L
  | none => (match seqI x L with
    | some it => .val ⟨enumD it.xs, it.chk⟩ L
    | none => .stuck)
@[simp] def kiEnB (Q : It3 → Lh → Prop) (E : Str → Lh → Prop) (x : D) (L : Lh) : Prop := wpR (enR x L) Q E
@[simp ↓] theorem wp_iEnB {f : E3} {Q : It3 → Lh → Prop} : wpR (iEnB f Γ L) Q E = wpR (f Γ L) (kiEnB Q E) E := wpR_bind'
@[simp] theorem enR_tup {xs : List D} : enR (.tup xs) L = .val ⟨enumD xs, fun _ => True⟩ L := rfl
@[simp] theorem enR_loc {n : Nat} {xs : List D} (h : L[n]? = some (.lst xs)) : enR (.loc n) L = .val ⟨enumD xs, fun L' => L'[n]? = some (.lst xs)⟩ L := by
  show (match seqI (.loc n) L with | some it => R3.val (It3.mk (enumD it.xs) it.chk) L | none => .stuck) = _
  rw [seqI_loc h]
def zpR (x y : D) (L : Lh) : R3 It3 := match seqI x L, seqI y L with
  | some a, some b => .val ⟨zipD a.xs b.xs, fun L => a.chk L ∧ b.chk L⟩ L
  | _, _ => (match tupI x, tupI y with
    | some a, some b => .val ⟨zipD a.xs b.xs, fun L => a.chk L ∧ b.chk L⟩ L
    | _, _ => .stuck)
@[simp] def kZp2 (x : D) (Q : It3 → Lh → Prop) (E : Str → Lh → Prop) (y : D) (L : Lh) : Prop := wpR (zpR x y L) Q E
@[simp] def kZp1 (g : E3) (Γ : G3) (Q : It3 → Lh → Prop) (E : Str → Lh → Prop) (x : D) (L : Lh) : Prop := wpR (g Γ L) (kZp2 x Q E) E
@[simp ↓] theorem wp_iZp {f g : E3} {Q : It3 → Lh → Prop} : wpR (iZp f g Γ L) Q E = wpR (f Γ L) (kZp1 g Γ Q E) E := wpR_bind2 (f := fun x L1 => (g Γ L1).bind fun y L2 => zpR x y L2) fun _ _ => Eq.symm wpR_bind'
theorem zpR_loc {n m : Nat} {xs ys : List D} (h : L[n]? = some (.lst xs)) (h2 : L[m]? = some (.lst ys)) : zpR (.loc n) (.loc m) L = .val ⟨zipD xs ys, fun L' => L'[n]? = some (.lst xs) ∧ L'[m]? = some (.lst ys)⟩ L := by
  unfold zpR; rw [seqI_loc h, seqI_loc h2]
@[simp] theorem zpR_tup {xs ys : List D} : zpR (.tup xs) (.tup ys) L = .val ⟨zipD xs ys, fun L' => True ∧ True⟩ L := rfl
end
section
variable {P : Po} {Γ : G3} {L : Lh}
/-! statements -/
def Po.seq (P : Po) (u : S3) : Po := ⟨fun Γ L => wpS (u Γ L) P, P.rt, P.bk, P.ct, P.ex⟩
@[simp] theorem Po.seq_nx {u : S3} : (P.seq u).nx Γ L = wpS (u Γ L) P := rfl
@[simp] theorem Po.seq_rt {u : S3} : (P.seq u).rt = P.rt := rfl
@[simp] theorem Po.seq_bk {u : S3} : (P.seq u).bk = P.bk := rfl
@[simp] theorem Po.seq_ct {u : S3} : (P.seq u).ct = P.ct := rfl
@[simp] theorem Po.seq_ex {u : S3} : (P.seq u).ex = P.ex := rfl
@[simp ↓] theorem wp_sSeq {t u : S3} : wpS (sSeq t u Γ L) P = wpS (t Γ L) (P.seq u) := by
  unfold sSeq; cases t Γ L <;> rfl
@[simp ↓] theorem wp_sNext : wpS (sNext Γ L) P = P.nx Γ L := rfl
@[simp ↓] theorem wp_sCont : wpS (sCont Γ L) P = P.ct Γ L := rfl
@[simp ↓] theorem wp_sBrk : wpS (sBrk Γ L) P = P.bk Γ L := rfl
@[simp] def kDrop (P : Po) (Γ : G3) (_ : D) (L : Lh) : Prop := P.nx Γ L
@[simp ↓] theorem wp_sDrop {f : E3} : wpS (sDrop f Γ L) P = wpR (f Γ L) (kDrop P Γ) (P.exk Γ) := wpS_out'
@[simp ↓] theorem wp_sRet {f : E3} : wpS (sRet f Γ L) P = wpR (f Γ L) P.rt (P.exk Γ) := wpS_out'
@[simp ↓] theorem wp_sRetN : wpS (sRetN Γ L) P = P.rt .non L := rfl
@[simp ↓] theorem wp_sRaise {c : Str} : wpS (sRaise c Γ L) P = P.ex c Γ L := rfl
@[simp] def kSIf (t u : S3) (Γ : G3) (P : Po) (b : Bool) (L : Lh) : Prop := wpS (cndS b t u Γ L) P
@[simp ↓] theorem wp_sIf {c : T3} {t u : S3} : wpS (sIf c t u Γ L) P = wpR (c Γ L) (kSIf t u Γ P) (P.exk Γ) := wpS_out'
@[simp] def kSet (i : Nat) (Γ : G3) (P : Po) (d : D) (L : Lh) : Prop := P.nx (Γ.set i (some d)) L
@[simp ↓] theorem wp_sSet {i : Nat} {f : E3} : wpS (sSet i f Γ L) P = wpR (f Γ L) (kSet i Γ P) (P.exk Γ) := wpS_out'
@[simp] def kPar2 (i j : Nat) (x : D) (Γ : G3) (P : Po) (y : D) (L : Lh) : Prop := P.nx ((Γ.set i (some x)).set j (some y)) L
@[simp] def kPar1 (i j : Nat) (g : E3) (Γ : G3) (P : Po) (x : D) (L : Lh) : Prop := wpR (g Γ L) (kPar2 i j x Γ P) (P.exk Γ)
theorem wpS_out2 {α : Type} {r : R3 α} {k : α → Lh → Out} {P : Po} {Γ : G3} {Q' : α → Lh → Prop} (h : ∀ a L, Q' a L = wpS (k a L) P) : wpS (r.out Γ k) P = wpR r Q' (P.exk Γ) := by
  rw [wpS_out']; congr; funext a L; exact (h a L).symm
@[simp ↓] theorem wp_sPar {i j : Nat} {f g : E3} : wpS (sPar i j f g Γ L) P = wpR (f Γ L) (kPar1 i j g Γ P) (P.exk Γ) := wpS_out2 fun _ _ => Eq.symm wpS_out'
/-- targets -/
def Po.tg (P : Po) : Po := ⟨P.nx, fun _ _ => False, fun _ _ => False, fun _ _ => False, P.ex⟩
@[simp] theorem Po.tg_nx : P.tg.nx = P.nx := rfl
@[simp] theorem Po.tg_ex : P.tg.ex = P.ex := rfl
@[simp] def kAsg (g : Tg3) (Γ : G3) (P : Po) (d : D) (L : Lh) : Prop := wpS (g d Γ L) P.tg
@[simp ↓] theorem wp_sAsg {f : E3} {g : Tg3} : wpS (sAsg f g Γ L) P = wpR (f Γ L) (kAsg g Γ P) (P.exk Γ) := wpS_out2 fun d L1 => by
  unfold kAsg; cases g d Γ L1 <;> rfl
@[simp ↓] theorem wp_gN {i : Nat} {d : D} : wpS (gN i d Γ L) P = P.nx (Γ.set i (some d)) L := rfl
def Po.gs (P : Po) (g : Tgs3) (r : List D) : Po := ⟨fun Γ L => wpS (g r Γ L) P, fun _ _ => False, fun _ _ => False, fun _ _ => False, P.ex⟩
@[simp] theorem Po.gs_nx {g : Tgs3} {r : List D} : (P.gs g r).nx Γ L = wpS (g r Γ L) P := rfl
@[simp] theorem Po.gs_ex {g : Tgs3} {r : List D} : (P.gs g r).ex = P.ex := rfl
@[simp ↓] theorem wp_gCons {g : Tg3} {gs : Tgs3} {d : D} {r : List D} : wpS (gCons3 g gs (d :: r) Γ L) P = wpS (g d Γ L) (P.gs gs r) := by
  show wpS (match g d Γ L with | .nx Γ1 L1 => gs r Γ1 L1 | .exn c Γ1 L1 => .exn c Γ1 L1 | _ => .stuck) P = _
  cases g d Γ L <;> rfl
@[simp ↓] theorem wp_gNil : wpS (gNil3 [] Γ L) P = P.nx Γ L := rfl
@[simp ↓] theorem wp_gT {n : Nat} {gs : Tgs3} {xs : List D} : wpS (gT n gs (.tup xs) Γ L) P = (xs.length = n ∧ wpS (gs xs Γ L) P) := by
  rw [gT_tup]; split
  · rename_i h; simp [h]
  · rename_i h; simp [h, wpS]
/-- xs[i] = d -/
def setR (n : Nat) (k : Int) (d : D) (Γ : G3) (L : Lh) : Out := match L[n]? with
    | some (.lst xs) => match ixN xs.length k with
      | some j => .nx Γ (L.set n (.lst (xs.set j d)))
      | none => .stuck
    | _ => .stuck
def gsR (o i : D) (d : D) (Γ : G3) (L : Lh) : Out := match o, i with
  | .loc n, .int k => setR n k d Γ L
  | _, _ => .stuck
@[simp] theorem gsR_loc {n : Nat} {k : Int} {d : D} : gsR (.loc n) (.int k) d Γ L = setR n k d Γ L := rfl
@[simp] def kGs2 (o : D) (d : D) (Γ : G3) (P : Po) (i : D) (L : Lh) : Prop := wpS (gsR o i d Γ L) P
@[simp] def kGs1 (fi : E3) (d : D) (Γ : G3) (P : Po) (o : D) (L : Lh) : Prop := wpR (fi Γ L) (kGs2 o d Γ P) (P.exk Γ)
@[simp ↓] theorem wp_gS {fo fi : E3} {d : D} : wpS (gS fo fi d Γ L) P = wpR (fo Γ L) (kGs1 fi d Γ P) (P.exk Γ) := wpS_out2 fun _ _ => Eq.symm wpS_out'
theorem setR_eq {n : Nat} {k : Int} {j : Nat} {d : D} {xs : List D} (h : L[n]? = some (.lst xs)) (hk : ixN xs.length k = some j) : setR n k d Γ L = .nx Γ (L.set n (.lst (xs.set j d))) := by
  unfold setR; simp only [h, hk]
def augR3 (i : Nat) (o : Op3) (f : E3) (x : D) (Γ : G3) (L : Lh) : Out := (f Γ L).out Γ fun y L1 => (o x y L1).out Γ fun z L2 => .nx (Γ.set i (some z)) L2
@[simp] def kAug2 (i : Nat) (o : Op3) (x : D) (Γ : G3) (P : Po) (y : D) (L : Lh) : Prop := wpR (o x y L) (kSet i Γ P) (P.exk Γ)
@[simp] def kAug1 (i : Nat) (o : Op3) (f : E3) (Γ : G3) (P : Po) (x : D) (L : Lh) : Prop := wpR (f Γ L) (kAug2 i o x Γ P) (P.exk Γ)
@[simp ↓] theorem wp_sAug {i : Nat} {o : Op3} {f : E3} : wpS (sAug i o f Γ L) P = wpR (eVar i Γ L) (kAug1 i o f Γ P) noE := by
  unfold sAug eVar
  rcases Γ[i]? with _ | _ | x
  · rfl
  · rfl
  · exact wpS_out2 fun _ _ => Eq.symm wpS_out'
@[simp] def kFor (g : Tg3) (b : S3) (Γ : G3) (P : Po) (it : It3) (L : Lh) : Prop := wpS (forL it.chk g b it.xs Γ L) P
@[simp ↓] theorem wp_sFor {f : I3} {g : Tg3} {b : S3} : wpS (sFor f g b Γ L) P = wpR (f Γ L) (kFor g b Γ P) (P.exk Γ) := wpS_out'
/-! loops -/
def Po.loop (P : Po) (I : G3 → Lh → Prop) : Po := ⟨I, P.rt, P.nx, I, P.ex⟩
@[simp] theorem Po.loop_nx {I : G3 → Lh → Prop} : (P.loop I).nx = I := rfl
@[simp] theorem Po.loop_rt {I : G3 → Lh → Prop} : (P.loop I).rt = P.rt := rfl
@[simp] theorem Po.loop_bk {I : G3 → Lh → Prop} : (P.loop I).bk = P.nx := rfl
@[simp] theorem Po.loop_ct {I : G3 → Lh → Prop} : (P.loop I).ct = I := rfl
@[simp] theorem Po.loop_ex {I : G3 → Lh → Prop} : (P.loop I).ex = P.ex := rfl
theorem wp_forN {chk : Lh → Prop} {g : Tg3} {b : S3} {xs : List D} (I : Nat → G3 → Lh → Prop) (h0 : I 0 Γ L) (hc : ∀ i Γ L, i ≤ xs.length → I i Γ L → chk L)
    (step : ∀ i (h : i < xs.length) Γ L, I i Γ L → wpS (g xs[i] Γ L) ⟨fun Γ L => wpS (b Γ L) (P.loop (I (i + 1))), fun _ _ => False, fun _ _ => False, fun _ _ => False, P.ex⟩) (hn : ∀ Γ L, I xs.length Γ L → P.nx Γ L) : wpS (forL chk g b xs Γ L) P := by
  have key : ∀ (k i : Nat), xs.length - i = k → i ≤ xs.length → ∀ Γ L, I i Γ L → wpS (forL chk g b (xs.drop i) Γ L) P := by
    intro k
    induction k with
    | zero =>
      intro i hk hi Γ L h
      obtain rfl : i = xs.length := by omega
      rw [List.drop_length, forL, if_pos (hc _ _ _ (Nat.le_refl _) h)]
      exact hn _ _ h
    | succ k ih =>
      intro i hk hi Γ L h
      have hlt : i < xs.length := by omega
      rw [List.drop_eq_getElem_cons hlt, forL, if_pos (hc _ _ _ hi h)]
      have s := step i hlt Γ L h
      cases hg : g xs[i] Γ L with
      | nx Γ1 L1 =>
        rw [hg] at s
        simp only [wpS] at s
        simp only []
        cases hb : b Γ1 L1 with
        | nx Γ2 L2 => rw [hb] at s; exact ih (i + 1) (by omega) hlt Γ2 L2 s
        | ct Γ2 L2 => rw [hb] at s; exact ih (i + 1) (by omega) hlt Γ2 L2 s
        | brk Γ2 L2 => rw [hb] at s; exact s
        | ret d L2 => rw [hb] at s; exact s
        | exn c Γ2 L2 => rw [hb] at s; exact s
        | stuck => rw [hb] at s; exact s.elim
      | exn c Γ1 L1 => rw [hg] at s; exact s
      | ret _ _ => rw [hg] at s; exact s.elim
      | brk _ _ => rw [hg] at s; exact s.elim
      | ct _ _ => rw [hg] at s; exact s.elim
      | stuck => rw [hg] at s; exact s.elim
  have := key xs.length 0 (by omega) (by omega) Γ L h0
  rwa [List.drop_zero] at this
/-- .. the invariant out of sight -/
def Po.body (P : Po) (b : S3) (J : G3 → Lh → Prop) : Po := ⟨fun Γ L => wpS (b Γ L) (P.loop J), fun _ _ => False, fun _ _ => False, fun _ _ => False, P.ex⟩
@[simp] theorem Po.body_nx {b : S3} {J : G3 → Lh → Prop} : (P.body b J).nx Γ L = wpS (b Γ L) (P.loop J) := rfl
@[simp] theorem Po.body_ex {b : S3} {J : G3 → Lh → Prop} : (P.body b J).ex = P.ex := rfl
theorem wp_for {chk : Lh → Prop} {g : Tg3} {b : S3} {xs : List D} (I : Nat → G3 → Lh → Prop) (h0 : I 0 Γ L) (hc : ∀ i Γ L, i ≤ xs.length → I i Γ L → chk L)
    (step : ∀ i (h : i < xs.length) Γ L (J : G3 → Lh → Prop), (∀ Γ L, I (i + 1) Γ L → J Γ L) → I i Γ L → wpS (g xs[i] Γ L) (P.body b J)) (hn : ∀ Γ L, I xs.length Γ L → P.nx Γ L) : wpS (forL chk g b xs Γ L) P :=
  wp_forN I h0 hc (fun i h Γ L hI => step i h Γ L _ (fun _ _ q => q) hI) hn
theorem wp_while {c : T3} {b : S3} (I : Nat → G3 → Lh → Prop) (m : Nat) (h0 : I m Γ L)
    (step : ∀ m Γ L, I m Γ L → wpR (c Γ L) (fun t L1 => if t = true then wpS (b Γ L1) (P.loop fun Γ2 L2 => ∃ m', m' < m ∧ I m' Γ2 L2) else P.nx Γ L1) (fun c L1 => P.ex c Γ L1)) : wpS (sWhile c b Γ L) P := by
  have key : ∀ m Γ L, I m Γ L → ∃ n o, wN n c b Γ L = o ∧ wpS o P := by
    intro m
    induction m using Nat.strongRecOn with
    | ind m ih =>
      intro Γ L h
      have s := step m Γ L h
      cases hc : c Γ L with
      | val t L1 =>
        rw [hc] at s
        cases t with
        | false => exact ⟨1, .nx Γ L1, by simp only [wN, wStep, hc, R3.out]; rfl, s⟩
        | true =>
          simp only [wpR, if_true] at s
          cases hb : b Γ L1 with
          | nx Γ2 L2 =>
            rw [hb] at s
            obtain ⟨m', h1, h2⟩ := s
            obtain ⟨n, o, e1, e2⟩ := ih m' h1 Γ2 L2 h2
            exact ⟨n + 1, o, by simp only [wN, wStep, hc, R3.out, if_true, hb]; exact e1, e2⟩
          | ct Γ2 L2 =>
            rw [hb] at s
            obtain ⟨m', h1, h2⟩ := s
            obtain ⟨n, o, e1, e2⟩ := ih m' h1 Γ2 L2 h2
            exact ⟨n + 1, o, by simp only [wN, wStep, hc, R3.out, if_true, hb]; exact e1, e2⟩
          | brk Γ2 L2 => rw [hb] at s; exact ⟨1, .nx Γ2 L2, by simp only [wN, wStep, hc, R3.out, if_true, hb], s⟩
          | ret d L2 => rw [hb] at s; exact ⟨1, .ret d L2, by simp only [wN, wStep, hc, R3.out, if_true, hb], s⟩
          | exn d Γ2 L2 => rw [hb] at s; exact ⟨1, .exn d Γ2 L2, by simp only [wN, wStep, hc, R3.out, if_true, hb], s⟩
          | stuck => rw [hb] at s; exact s.elim
      | exn d L1 => rw [hc] at s; exact ⟨1, .exn d Γ L1, by simp only [wN, wStep, hc, R3.out], s⟩
      | stuck => rw [hc] at s; exact s.elim
  obtain ⟨n, o, e1, e2⟩ := key m Γ L h0
  have ho : o ≠ .stuck := fun z => by rw [z] at e2; exact e2
  rw [sWhile_eq n e1 ho]
  exact e2
/-- a while by a measure, the invariant out of sight; t what the test says -/
def kWh (b : S3) (Γ : G3) (P : Po) (J : G3 → Lh → Prop) (t : Bool) (L : Lh) : Prop := if t = true then wpS (b Γ L) (P.loop J) else P.nx Γ L
@[simp] theorem kWh_true {b : S3} {J : G3 → Lh → Prop} : kWh b Γ P J true L = wpS (b Γ L) (P.loop J) := by simp [kWh]
@[simp] theorem kWh_false {b : S3} {J : G3 → Lh → Prop} : kWh b Γ P J false L = P.nx Γ L := by simp [kWh]
theorem wp_wh {p : Prop} [Decidable p] {b : S3} {J : G3 → Lh → Prop} (h1 : p → wpS (b Γ L) (P.loop J)) (h2 : ¬ p → P.nx Γ L) : kWh b Γ P J (decide p) L := by
  by_cases h : p
  · rw [decide_eq_true h, kWh_true]; exact h1 h
  · rw [decide_eq_false h, kWh_false]; exact h2 h
theorem wp_whl {c : T3} {b : S3} (I : Nat → G3 → Lh → Prop) (m : Nat) (h0 : I m Γ L)
    (step : ∀ m Γ L (J : G3 → Lh → Prop), (∀ m' Γ L, m' < m → I m' Γ L → J Γ L) → I m Γ L → wpR (c Γ L) (kWh b Γ P J) (P.exk Γ)) : wpS (sWhile c b Γ L) P :=
  wp_while I m h0 fun m Γ L h => step m Γ L (fun Γ2 L2 => ∃ m', m' < m ∧ I m' Γ2 L2) (fun m' Γ L h1 h2 => ⟨m', h1, h2⟩) h
end
/-- a comprehension, by what its list is: ys i the answer of turn i, none where the test says no -/
theorem wp_lc {chk : Lh → Prop} {g : Tg3} {t : T3} {e : E3} {Γ0 : G3} {n : Nat} {xs : List D} {Q : D → Lh → Prop} {E : Str → Lh → Prop} {L : Lh} (I : Nat → List D → Lh → Prop) (h0 : I 0 [] L) (hL : L[n]? = some (.lst []))
    (hc : ∀ i ys L, i ≤ xs.length → L[n]? = some (.lst ys) → I i ys L → chk L)
    (step : ∀ i (h : i < xs.length) ys L, L[n]? = some (.lst ys) → I i ys L → wpS (g xs[i] Γ0 L) ⟨fun Γ1 L1 => wpR (t Γ1 L1) (fun b L2 => if b = true then wpR (e Γ1 L2) (fun y L3 => L3[n]? = some (.lst ys) ∧ ys.length ≤ 100000 ∧ I (i + 1) (ys ++ [y]) (L3.set n (.lst (ys ++ [y])))) noE else L2[n]? = some (.lst ys) ∧ I (i + 1) ys L2) noE, fun _ _ => False, fun _ _ => False, fun _ _ => False, fun _ _ _ => False⟩)
    (hn : ∀ ys L, L[n]? = some (.lst ys) → I xs.length ys L → Q (.loc n) L) : wpR (lcL chk g t e Γ0 n xs L) Q E := by
  have key : ∀ (k i : Nat), xs.length - i = k → i ≤ xs.length → ∀ ys L, L[n]? = some (.lst ys) → I i ys L → wpR (lcL chk g t e Γ0 n (xs.drop i) L) Q E := by
    intro k
    induction k with
    | zero =>
      intro i hk hi ys L hL h
      obtain rfl : i = xs.length := by omega
      rw [List.drop_length, lcL, if_pos (hc _ _ _ (Nat.le_refl _) hL h)]
      exact hn _ _ hL h
    | succ k ih =>
      intro i hk hi ys L hL h
      have hlt : i < xs.length := by omega
      rw [List.drop_eq_getElem_cons hlt, lcL, if_pos (hc _ _ _ hi hL h)]
      have s := step i hlt ys L hL h
      cases hg : g xs[i] Γ0 L with
      | nx Γ1 L1 =>
        rw [hg] at s
        simp only [wpS] at s
        simp only []
        cases ht : t Γ1 L1 with
        | val b L2 =>
          rw [ht] at s
          cases b with
          | true =>
            simp only [wpR, if_true] at s
            simp only []
            cases he : e Γ1 L2 with
            | val y L3 =>
              rw [he] at s
              obtain ⟨s1, s2, s3⟩ := s
              simp only [s1, if_pos s2]
              have hn' : n < L3.length := (List.getElem?_eq_some_iff.mp s1).1
              exact ih (i + 1) (by omega) hlt _ _ (List.getElem?_set_self hn') s3
            | exn _ _ => rw [he] at s; exact s.elim
            | stuck => rw [he] at s; exact s.elim
          | false =>
            simp only [wpR] at s
            rw [if_neg Bool.false_ne_true] at s
            exact ih (i + 1) (by omega) hlt _ _ s.1 s.2
        | exn _ _ => rw [ht] at s; exact s.elim
        | stuck => rw [ht] at s; exact s.elim
      | exn c Γ1 L1 => rw [hg] at s; exact s.elim
      | ret _ _ => rw [hg] at s; exact s.elim
      | brk _ _ => rw [hg] at s; exact s.elim
      | ct _ _ => rw [hg] at s; exact s.elim
      | stuck => rw [hg] at s; exact s.elim
  have := key xs.length 0 (by omega) (by omega) [] L hL h0
  rwa [List.drop_zero] at this
/-! functions -/
noncomputable def Po.fn (L : Lh) (Q : D → Lh → Prop) (E : Str → Lh → Prop) : Po := ⟨fun _ L' => wpR (trunc L .non L') Q E, fun d L' => wpR (trunc L d L') Q E, fun _ _ => False, fun _ _ => False, fun c _ L' => wpR (truncX L c L') Q E⟩
section
variable {L0 : Lh} {Q : D → Lh → Prop} {E : Str → Lh → Prop} {Γ : G3} {L : Lh}
@[simp] theorem Po.fn_nx : (Po.fn L0 Q E).nx Γ L = wpR (trunc L0 .non L) Q E := rfl
@[simp] theorem Po.fn_rt {d : D} : (Po.fn L0 Q E).rt d L = wpR (trunc L0 d L) Q E := rfl
@[simp] theorem Po.fn_ex {c : Str} : (Po.fn L0 Q E).ex c Γ L = wpR (truncX L0 c L) Q E := rfl
theorem wp_run {k n : Nat} {t : S3} {ds : List D} (hk : ds.length = k) (h : wpS (t (ds.map some ++ List.replicate (n - ds.length) none) L) (Po.fn L Q E)) : wpR (run3 k n t ds L) Q E := by
  unfold run3
  rw [if_pos hk]
  cases ht : t (ds.map some ++ List.replicate (n - ds.length) none) L with
  | nx Γ L' => rw [ht] at h; exact h
  | ret d L' => rw [ht] at h; exact h
  | exn c Γ L' => rw [ht] at h; exact h
  | brk _ _ => rw [ht] at h; exact h.elim
  | ct _ _ => rw [ht] at h; exact h.elim
  | stuck => rw [ht] at h; exact h.elim
@[simp] theorem trunc_sameS {d : D} (h : closed L.length d = true) : trunc L d L = .val d L := trunc_same h
@[simp] theorem trunc_flatS {G : Lh} {d : D} (h : closed L.length d = true) : trunc L d (L ++ G) = .val d L := trunc_flat h
@[simp] theorem truncX_sameS {c : Str} : truncX L c L = .exn c L := by have := truncX_eq (L := L) (G := []) (c := c); simpa using this
@[simp] theorem truncX_flatS {G : Lh} {c : Str} : truncX L c (L ++ G) = .exn c L := truncX_eq
/-- whatever comes back, the cells that stood stand as they were told behind -/
theorem wp_trunc {d : D} {L' : Lh} (hd : closed L.length d = true) (h1 : L'.take L.length = L → Q d L) (h2 : Q d L') : wpR (trunc L d L') Q E := by
  by_cases h : L'.take L.length = L
  · have : trunc L d L' = .val d L := by unfold trunc; rw [if_pos h, if_pos hd]
    rw [this]; exact h1 h
  · rw [trunc_other h]; exact h2
theorem wp_truncL {m : Nat} {xs : List D} {L' : Lh} (hm : L.length ≤ m) (hx : L'[m]? = some (.lst xs)) (hc : closeds L.length xs = true) (h1 : L'.take L.length = L → Q (.loc L.length) (L ++ [.lst xs])) (h2 : Q (.loc m) L') : wpR (trunc L (.loc m) L') Q E := by
  by_cases h : L'.take L.length = L
  · rw [trunc_new h hm hx hc]; exact h1 h
  · rw [trunc_other h]; exact h2
@[simp] theorem wp_truncN {xs : List D} (hc : closeds L.length xs = true) : wpR (trunc L (.loc L.length) (L ++ [.lst xs])) Q E = Q (.loc L.length) (L ++ [.lst xs]) := by
  rw [trunc_new (by simp) (Nat.le_refl _) (by simp) hc]; rfl
end
/-! ## slices of lists with a step -/
def stepL {α : Type} (xs : List α) (lo hi st : Option Int) : List α := (sliceRange (sliceBounds lo hi st xs.length).1 (sliceBounds lo hi st xs.length).2.1 (sliceBounds lo hi st xs.length).2.2).filterMap (xs[·]?)
theorem fm_vals : ∀ (is : List Nat) {vs : List V} {us : List Value}, Vals vs us → Vals (is.filterMap (vs[·]?)) (is.filterMap (us[·]?))
  | [], _, _, _ => .nil
  | i :: is, vs, us, r => by
    have ih := fm_vals is r
    rw [List.filterMap_cons, List.filterMap_cons]
    cases e : vs[i]? with
    | none =>
      have : us[i]? = none := by
        rw [List.getElem?_eq_none_iff] at e ⊢
        rw [← r.length]; exact e
      rw [this]; exact ih
    | some v =>
      obtain ⟨u, hu, ru⟩ := r.get e
      rw [hu]
      exact .cons ru ih
theorem fm_reps {K : PySem.W.Frag} {ρ : List Addr} {H : Hp} : ∀ (is : List Nat) {ds : List D} {vs : List V}, Reps K ρ H ds vs → Reps K ρ H (is.filterMap (ds[·]?)) (is.filterMap (vs[·]?))
  | [], _, _, _ => rfl
  | i :: is, ds, vs, r => by
    have ih := fm_reps is r
    rw [List.filterMap_cons, List.filterMap_cons]
    cases e : ds[i]? with
    | none =>
      have : vs[i]? = none := by
        rw [List.getElem?_eq_none_iff] at e ⊢
        rw [Reps.length r]; exact e
      rw [this]; exact ih
    | some d =>
      obtain ⟨v, hv, rv⟩ := r.get e
      rw [hv]
      exact ⟨v, _, rfl, rv, ih⟩
def tStepL (K : PySem.W.Frag) (te : TE) (tl tu ts : TO) : TE := fun σ H Q => te σ H fun x H1 => tl σ H1 fun lo H2 => tu σ H2 fun hi H3 => ts σ H3 fun st H4 => ∃ a xs, x = .ref a ∧ SqL K H4 a xs ∧ st ≠ some 0 ∧ (stepL xs lo hi st).length ≤ sizeLine ∧ ∀ p, H4 p = none → Q (.ref p) (upd H4 p (.lst (stepL xs lo hi st)))
theorem pe_step {X : Cx} {e st : Expr} {lo hi : Option Expr} {te : TE} {tl tu ts : TO} {p3 pos : Pos} (he : PE X e te) (hl : PO X lo tl) (hu : PO X hi tu) (hst : PO X (some st) ts) : PE X (.Subscript e (.Slice lo hi (some st) p3) pos) (tStepL X.K te tl tu ts) := by
  refine ⟨fun pins s σ H Q I h => ?_⟩
  refine Subscript_ (thn (he.run pins s σ H _ I h) fun v s1 ⟨x, H1, I1, r1, q1⟩ => ?_)
  refine wpAny_Slice (thn (hl.run pins s1 σ H1 _ I1 q1) fun vl s2 ⟨l, H2, I2, pl, q2⟩ => ?_)
  refine thn (hu.run pins s2 σ H2 _ I2 q2) fun vu s3 ⟨u, H3, I3, pu, q3⟩ => ?_
  refine thn (hst.run pins s3 σ H3 _ I3 q3) fun vs s4 ⟨o, H4, I4, ps, q4⟩ => ?_
  obtain ⟨a, xs, ex, hx, h0, hsz, q⟩ := q4
  subst ex
  cases r1
  have I5 : Inv X pins σ H4 { s4 with heap := s4.heap.push { cls := .type "slice", data := .fields #[vl, vu, vs] } } := I4.kept (t' := s4.toks) fun b ob q => Heap.get?_push_of_some _ q
  obtain ⟨its, r, ht, hz⟩ := I5.list hx
  have hlen := r.length
  show wpAny (model X.prog X.w) X.A (subscriptTail e (.Slice lo hi (some st) p3) (.ref a) (.ref s4.heap.objs.size)) _ _ _
  refine tail_any (ops := [.ref a, .ref s4.heap.objs.size]) ht.isList.typeIs (PySem.slot_list_getitem.lookup) ?_ (by with_unfolding_all rfl)
  refine wpAny_getItem_list_slice ht.isList (Heap.IsSliceOf.new _ vl vu vs) pl pu ps h0 ?_ (by rw [List.size_toArray]; omega)
  refine ⟨.ref _, _, I5.laid (t' := s4.toks) (o := .lst (stepL xs l u o)) (fun b ob q => Heap.get?_push_of_some _ q) (Nat.le_refl _) ?_, rfl, q _ (I5.hok.fresh (Nat.le_refl _))⟩
  have hv : Vals (stepL xs l u o) (slicePick its.toArray l u o).toList := by
    unfold slicePick stepL
    rw [List.size_toArray, ← hlen]
    have := fm_vals (sliceRange (sliceBounds l u o xs.length).1 (sliceBounds l u o xs.length).2.1 (sliceBounds l u o xs.length).2.2) r
    simpa using this
  exact ⟨hsz, _, 0, hv, Heap.get?_push_size _ rfl⟩
/-- a slice with a step -/
def stepD (x : D) (a b c : Option Int) (L : Lh) : R3 D := match items x L with
  | some xs => if c ≠ some 0 ∧ (stepL xs a b c).length ≤ 100000 then .val (.loc L.length) (L ++ [.lst (stepL xs a b c)]) else .stuck
  | none => .stuck
def eSlS (f : E3) (lo hi st : O3) (Γ : G3) (L : Lh) : R3 D := (f Γ L).bind fun x L1 => (lo Γ L1).bind fun a L2 => (hi Γ L2).bind fun b L3 => (st Γ L3).bind fun c L4 => stepD x a b c L4
theorem e3_sliceS {X : Cx} {W : WX} {e st : Expr} {lo hi : Option Expr} {p2 pos : Pos} {f : E3} {fl fh fs : O3} (he : PE3 X W e f) (hl : PO3 X W lo fl) (hh : PO3 X W hi fh) (hs : PO3 X W (some st) fs) : PE3 X W (.Subscript e (.Slice lo hi (some st) p2) pos) (eSlS f fl fh fs) := by
  obtain ⟨te, p, q⟩ := he
  obtain ⟨tl, pl, ql⟩ := hl
  obtain ⟨th, ph, qh⟩ := hh
  obtain ⟨ts, pst, qs⟩ := hs
  refine ⟨_, pe_step p pl ph pst, fun σ H ρ Γ L Q E A h => ?_⟩
  refine q σ H ρ Γ L _ E A (hbind h fun x L1 vx H1 ρ1 e1 r1 A1 h1 => ?_)
  refine ql σ H1 ρ1 Γ L1 _ (E.mono e1) A1 (hbind h1 fun a L2 va H2 ρ2 e2 r2 A2 h2 => ?_)
  obtain rfl : a = va := r2
  refine qh σ H2 ρ2 Γ L2 _ (E.mono (e1.trans e2)) A2 (hbind h2 fun b L3 vb H3 ρ3 e3 r3 A3 h3 => ?_)
  obtain rfl : b = vb := r3
  refine qs σ H3 ρ3 Γ L3 _ (E.mono ((e1.trans e2).trans e3)) A3 (hbind h3 fun c L4 vc H4 ρ4 e4 r4 A4 h4 => ?_)
  obtain rfl : c = vc := r4
  have r5 := Rep.mono ((e2.trans e3).trans e4) x r1
  unfold stepD at h4
  split at h4
  · rename_i xs hx
    split at h4
    · rename_i hc
      obtain ⟨ad, vs, rfl, hsq, hr⟩ := items_sq A4 hx r5
      have hl := Reps.length hr
      have hr2 : Reps X.K ρ4 H4 (stepL xs a b c) (stepL vs a b c) := by unfold stepL; rw [hl]; exact fm_reps _ hr
      refine ⟨ad, vs, rfl, hsq, hc.1, ?_, hold_new h4 A4 hr2⟩
      rw [Reps.length hr2]
      exact size_le hc.2
    · exact h4.elim
  · exact h4.elim
@[simp] def kSlS4 (x : D) (a b : Option Int) (Q : D → Lh → Prop) (E : Str → Lh → Prop) (c : Option Int) (L : Lh) : Prop := wpR (stepD x a b c L) Q E
@[simp] def kSlS3 (st : O3) (Γ : G3) (x : D) (a : Option Int) (Q : D → Lh → Prop) (E : Str → Lh → Prop) (b : Option Int) (L : Lh) : Prop := wpR (st Γ L) (kSlS4 x a b Q E) E
@[simp] def kSlS2 (hi st : O3) (Γ : G3) (x : D) (Q : D → Lh → Prop) (E : Str → Lh → Prop) (a : Option Int) (L : Lh) : Prop := wpR (hi Γ L) (kSlS3 st Γ x a Q E) E
@[simp] def kSlS1 (lo hi st : O3) (Γ : G3) (Q : D → Lh → Prop) (E : Str → Lh → Prop) (x : D) (L : Lh) : Prop := wpR (lo Γ L) (kSlS2 hi st Γ x Q E) E
@[simp ↓] theorem wp_eSlS {f : E3} {lo hi st : O3} {Γ : G3} {L : Lh} {Q : D → Lh → Prop} {E : Str → Lh → Prop} : wpR (eSlS f lo hi st Γ L) Q E = wpR (f Γ L) (kSlS1 lo hi st Γ Q E) E := wpR_bind2 fun _ _ => Eq.symm (wpR_bind2 fun _ _ => Eq.symm (wpR_bind2 fun _ _ => Eq.symm wpR_bind'))
theorem stepL_rev {α : Type} (xs : List α) : stepL xs none none (some (-1)) = xs.reverse := by
  unfold stepL
  rw [PySem.W.krv_bounds]
  show (sliceRange ((xs.length : Int) - 1) (-1) (-1)).filterMap (xs[·]?) = _
  have h := PySem.W.krv_all xs.toArray
  simp only [List.size_toArray, List.getElem?_toArray] at h
  rw [PySem.W.krv_sliceRange, PySem.W.krv_range, List.filterMap_reverse, h]
theorem stepD_rev {L : Lh} {n : Nat} {xs : List D} (h : L[n]? = some (.lst xs)) (hl : xs.length ≤ 100000) : stepD (.loc n) none none (some (-1)) L = .val (.loc L.length) (L ++ [.lst xs.reverse]) := by
  unfold stepD
  rw [items_loc h]
  simp only [stepL_rev]
  rw [if_pos ⟨by decide, by rw [List.length_reverse]; exact hl⟩]
/-! ## a, b, c = x, y, z of local names -/
def sPar3 (i j l : Nat) (fa fb fc : E3) (Γ : G3) (L : Lh) : Out := (fa Γ L).out Γ fun x L1 => (fb Γ L1).out Γ fun y L2 => (fc Γ L2).out Γ fun z L3 => .nx (((Γ.set i (some x)).set j (some y)).set l (some z)) L3
theorem s3_par3 {X : Cx} {W : WX} {pos : Pos} {a b c : Expr} {fa fb fc : E3} (i j l : Nat) {x y z : Str} {px py pz pt : Pos} {kt k2 pt2} (hc : X.calm = true) (ha : PE3 X W a fa) (hb : PE3 X W b fb) (hcc : PE3 X W c fc) (hN : X.N.Nodup) (hi : X.N[i]? = some x := by rfl) (hj : X.N[j]? = some y := by rfl) (hl : X.N[l]? = some z := by rfl) (hij : i ≠ j := by decide) (hil : i ≠ l := by decide) (hjl : j ≠ l := by decide)
    (hx : X.env.scope.names.lookup x = some .local := by rfl) (hy : X.env.scope.names.lookup y = some .local := by rfl) (hz : X.env.scope.names.lookup z = some .local := by rfl) (hab : starEach [a, b, c] X.env = (false, eval a X.env) :: starEach [b, c] X.env := by rfl) (hbb : starEach [b, c] X.env = (false, eval b X.env) :: starEach [c] X.env := by rfl) (hcb : starEach [c] X.env = (false, eval c X.env) :: starEach [] X.env := by rfl)
    (hw : swappedStores [.Tuple [.Name x px, .Name y py, .Name z pz] kt pt] (.Tuple [a, b, c] k2 pt2) X.env = pure (some [x, y, z]) := by rfl)
    (hs : swapsWithSole [.Tuple [.Name x px, .Name y py, .Name z pz] kt pt] (.Tuple [a, b, c] k2 pt2) pos.line X.env = pure false := by rfl) :
    PS3 X W (.Assign [.Tuple [.Name x px, .Name y py, .Name z pz] kt pt] (.Tuple [a, b, c] k2 pt2) pos) (sPar3 i j l fa fb fc) := by
  obtain ⟨ta, p, q⟩ := ha
  obtain ⟨tb, p2, q2⟩ := hb
  obtain ⟨tc, p3, q3⟩ := hcc
  refine ⟨_, ps_par3 hc hN hi hj hl hij hil hjl hx hy hz (pa_cons p (pa_cons p2 (pa_cons p3 pa_nil hcb) hbb) hab) hw hs, fun σ H ρ Γ L Dn E A h => ?_⟩
  refine q σ H ρ Γ L _ E A (sout E h fun x L1 vx H1 ρ1 e1 r1 A1 h1 => ?_)
  refine q2 σ H1 ρ1 Γ L1 _ (E.mono e1) A1 (sout (E.mono e1) h1 fun y L2 vy H2 ρ2 e2 r2 A2 h2 => ?_)
  refine q3 σ H2 ρ2 Γ L2 _ (E.mono (e1.trans e2)) A2 (sout (E.mono (e1.trans e2)) h2 fun z L3 vz H3 ρ3 e3 r3 A3 h3 => ?_)
  exact ⟨vx, vy, vz, rfl, h3 _ H3 ρ3 (Ext.refl _ _) ((((E.mono ((e1.trans e2).trans e3)).set (Rep.mono (e2.trans e3) x r1)).set (Rep.mono e3 y r2)).set r3) A3⟩
@[simp] def kPar33 (i j l : Nat) (x y : D) (Γ : G3) (P : Po) (z : D) (L : Lh) : Prop := P.nx (((Γ.set i (some x)).set j (some y)).set l (some z)) L
@[simp] def kPar32 (i j l : Nat) (h : E3) (x : D) (Γ : G3) (P : Po) (y : D) (L : Lh) : Prop := wpR (h Γ L) (kPar33 i j l x y Γ P) (P.exk Γ)
@[simp] def kPar31 (i j l : Nat) (g h : E3) (Γ : G3) (P : Po) (x : D) (L : Lh) : Prop := wpR (g Γ L) (kPar32 i j l h x Γ P) (P.exk Γ)
@[simp ↓] theorem wp_sPar3 {i j l : Nat} {f g h : E3} {Γ : G3} {L : Lh} {P : Po} : wpS (sPar3 i j l f g h Γ L) P = wpR (f Γ L) (kPar31 i j l g h Γ P) (P.exk Γ) := wpS_out2 fun _ _ => Eq.symm (wpS_out2 fun _ _ => Eq.symm wpS_out')

def topS (i : Nat) : Stmt := PySem.Challenge.pw_evenerror_k23_level.main.body.getD i (.Pass ⟨0, 0, 0, 0⟩)
abbrev s_divisor : Stmt := topS 3
def df_divisor : He.DefD := ⟨("divisor", none), "divisor", "divisor", defArgs s_divisor, defBody s_divisor, defScope s_divisor, [], []⟩
abbrev s_fraction : Stmt := topS 4
def df_fraction : He.DefD := ⟨("fraction", none), "fraction", "fraction", defArgs s_fraction, defBody s_fraction, defScope s_fraction, [], []⟩
abbrev s_plus : Stmt := topS 5
def df_plus : He.DefD := ⟨("plus", none), "plus", "plus", defArgs s_plus, defBody s_plus, defScope s_plus, [], []⟩
abbrev s_less : Stmt := topS 6
def df_less : He.DefD := ⟨("less", none), "less", "less", defArgs s_less, defBody s_less, defScope s_less, [], []⟩
abbrev s_times : Stmt := topS 7
def df_times : He.DefD := ⟨("times", none), "times", "times", defArgs s_times, defBody s_times, defScope s_times, [], []⟩
abbrev s_over : Stmt := topS 8
def df_over : He.DefD := ⟨("over", none), "over", "over", defArgs s_over, defBody s_over, defScope s_over, [], []⟩
abbrev s_turned : Stmt := topS 9
def df_turned : He.DefD := ⟨("turned", none), "turned", "turned", defArgs s_turned, defBody s_turned, defScope s_turned, [], []⟩
abbrev s_lever : Stmt := topS 13
def df_lever : He.DefD := ⟨("lever", none), "lever", "lever", defArgs s_lever, defBody s_lever, defScope s_lever, [], []⟩
abbrev s_levers : Stmt := topS 14
def df_levers : He.DefD := ⟨("levers", none), "levers", "levers", defArgs s_levers, defBody s_levers, defScope s_levers, [], []⟩
abbrev s_weighed : Stmt := topS 15
def df_weighed : He.DefD := ⟨("weighed", none), "weighed", "weighed", defArgs s_weighed, defBody s_weighed, defScope s_weighed, [], []⟩
abbrev s_lean : Stmt := topS 20
def df_lean : He.DefD := ⟨("lean", none), "lean", "lean", defArgs s_lean, defBody s_lean, defScope s_lean, [], []⟩
abbrev s_worth : Stmt := topS 21
def df_worth : He.DefD := ⟨("worth", none), "worth", "worth", defArgs s_worth, defBody s_worth, defScope s_worth, [], []⟩
abbrev s_part_at : Stmt := topS 22
def df_part_at : He.DefD := ⟨("part_at", none), "part_at", "part_at", defArgs s_part_at, defBody s_part_at, defScope s_part_at, [], []⟩
abbrev s_sum_of : Stmt := topS 23
def df_sum_of : He.DefD := ⟨("sum_of", none), "sum_of", "sum_of", defArgs s_sum_of, defBody s_sum_of, defScope s_sum_of, [], []⟩
abbrev s_times_all : Stmt := topS 24
def df_times_all : He.DefD := ⟨("times_all", none), "times_all", "times_all", defArgs s_times_all, defBody s_times_all, defScope s_times_all, [], []⟩
abbrev s_product : Stmt := topS 25
def df_product : He.DefD := ⟨("product", none), "product", "product", defArgs s_product, defBody s_product, defScope s_product, [], []⟩
abbrev s_without_root : Stmt := topS 26
def df_without_root : He.DefD := ⟨("without_root", none), "without_root", "without_root", defArgs s_without_root, defBody s_without_root, defScope s_without_root, [], []⟩
abbrev s_through : Stmt := topS 27
def df_through : He.DefD := ⟨("through", none), "through", "through", defArgs s_through, defBody s_through, defScope s_through, [], []⟩
abbrev s_unsigned : Stmt := topS 29
def df_unsigned : He.DefD := ⟨("unsigned", none), "unsigned", "unsigned", defArgs s_unsigned, defBody s_unsigned, defScope s_unsigned, [], []⟩
abbrev s_opposite : Stmt := topS 30
def df_opposite : He.DefD := ⟨("opposite", none), "opposite", "opposite", defArgs s_opposite, defBody s_opposite, defScope s_opposite, [], []⟩
abbrev s_room_of : Stmt := topS 31
def df_room_of : He.DefD := ⟨("room_of", none), "room_of", "room_of", defArgs s_room_of, defBody s_room_of, defScope s_room_of, [], []⟩
abbrev s_first_error : Stmt := topS 32
def df_first_error : He.DefD := ⟨("first_error", none), "first_error", "first_error", defArgs s_first_error, defBody s_first_error, defScope s_first_error, [], []⟩
abbrev s_level : Stmt := topS 33
def df_level : He.DefD := ⟨("level", none), "level", "level", defArgs s_level, defBody s_level, defScope s_level, [], []⟩
abbrev s_bound : Stmt := topS 34
def df_bound : He.DefD := ⟨("bound", none), "bound", "bound", defArgs s_bound, defBody s_bound, defScope s_bound, [], []⟩
abbrev s_law_pot : Stmt := topS 36
def df_law_pot : He.DefD := ⟨("_law_pot", none), "_law_pot", "_law_pot", defArgs s_law_pot, defBody s_law_pot, defScope s_law_pot, [], []⟩
abbrev s_law_draw : Stmt := topS 37
def df_law_draw : He.DefD := ⟨("_law_draw", none), "_law_draw", "_law_draw", defArgs s_law_draw, defBody s_law_draw, defScope s_law_draw, [], []⟩
abbrev s_law_fraction : Stmt := topS 38
def df_law_fraction : He.DefD := ⟨("_law_fraction", none), "_law_fraction", "_law_fraction", defArgs s_law_fraction, defBody s_law_fraction, defScope s_law_fraction, [], []⟩
abbrev s_law_plus : Stmt := topS 39
def df_law_plus : He.DefD := ⟨("_law_plus", none), "_law_plus", "_law_plus", defArgs s_law_plus, defBody s_law_plus, defScope s_law_plus, [], []⟩
abbrev s_law_less : Stmt := topS 40
def df_law_less : He.DefD := ⟨("_law_less", none), "_law_less", "_law_less", defArgs s_law_less, defBody s_law_less, defScope s_law_less, [], []⟩
abbrev s_law_times : Stmt := topS 41
def df_law_times : He.DefD := ⟨("_law_times", none), "_law_times", "_law_times", defArgs s_law_times, defBody s_law_times, defScope s_law_times, [], []⟩
abbrev s_law_by : Stmt := topS 42
def df_law_by : He.DefD := ⟨("_law_by", none), "_law_by", "_law_by", defArgs s_law_by, defBody s_law_by, defScope s_law_by, [], []⟩
abbrev s_law_is_fraction : Stmt := topS 43
def df_law_is_fraction : He.DefD := ⟨("_law_is_fraction", none), "_law_is_fraction", "_law_is_fraction", defArgs s_law_is_fraction, defBody s_law_is_fraction, defScope s_law_is_fraction, [], []⟩
abbrev s_law_numbers : Stmt := topS 44
def df_law_numbers : He.DefD := ⟨("_law_numbers", none), "_law_numbers", "_law_numbers", defArgs s_law_numbers, defBody s_law_numbers, defScope s_law_numbers, [], []⟩
abbrev s_law_value : Stmt := topS 45
def df_law_value : He.DefD := ⟨("_law_value", none), "_law_value", "_law_value", defArgs s_law_value, defBody s_law_value, defScope s_law_value, [], []⟩
abbrev s_law_weight : Stmt := topS 46
def df_law_weight : He.DefD := ⟨("_law_weight", none), "_law_weight", "_law_weight", defArgs s_law_weight, defBody s_law_weight, defScope s_law_weight, [], []⟩
abbrev s_law_at : Stmt := topS 47
def df_law_at : He.DefD := ⟨("_law_at", none), "_law_at", "_law_at", defArgs s_law_at, defBody s_law_at, defScope s_law_at, [], []⟩
abbrev s_law_errors : Stmt := topS 48
def df_law_errors : He.DefD := ⟨("_law_errors", none), "_law_errors", "_law_errors", defArgs s_law_errors, defBody s_law_errors, defScope s_law_errors, [], []⟩
abbrev s_law_unsigned : Stmt := topS 49
def df_law_unsigned : He.DefD := ⟨("_law_unsigned", none), "_law_unsigned", "_law_unsigned", defArgs s_law_unsigned, defBody s_law_unsigned, defScope s_law_unsigned, [], []⟩
abbrev s_law_is_poly : Stmt := topS 50
def df_law_is_poly : He.DefD := ⟨("_law_is_poly", none), "_law_is_poly", "_law_is_poly", defArgs s_law_is_poly, defBody s_law_is_poly, defScope s_law_is_poly, [], []⟩
abbrev s_law_reference : Stmt := topS 51
def df_law_reference : He.DefD := ⟨("_law_reference", none), "_law_reference", "_law_reference", defArgs s_law_reference, defBody s_law_reference, defScope s_law_reference, [], []⟩
abbrev s_law_right : Stmt := topS 52
def df_law_right : He.DefD := ⟨("_law_right", none), "_law_right", "_law_right", defArgs s_law_right, defBody s_law_right, defScope s_law_right, [], []⟩
abbrev s_law : Stmt := topS 53
def df_law : He.DefD := ⟨("law", none), "law", "law", defArgs s_law, defBody s_law, defScope s_law, [], []⟩
def exD (K : PySem.W.Frag) : Bool := He.tupB K "NOUGHT_fractions" ([.int 0, .int 1].map dvD) && He.tupB K "NOUGHT_levers" ([.int 0, .int 1].map dvD) && He.tupB K "ONE_fractions" ([.int 1, .int 1].map dvD) && He.tupB K "ONE_levers" ([.int 1, .int 1].map dvD)
theorem ex_NOUGHT_fractions {K : PySem.W.Frag} (h : exD K = true) : He.tupB K "NOUGHT_fractions" ([.int 0, .int 1].map dvD) = true := by
  unfold exD at h
  simp only [Bool.and_eq_true] at h
  exact h.1.1.1
theorem ex_NOUGHT_levers {K : PySem.W.Frag} (h : exD K = true) : He.tupB K "NOUGHT_levers" ([.int 0, .int 1].map dvD) = true := by
  unfold exD at h
  simp only [Bool.and_eq_true] at h
  exact h.1.1.2
theorem ex_ONE_fractions {K : PySem.W.Frag} (h : exD K = true) : He.tupB K "ONE_fractions" ([.int 1, .int 1].map dvD) = true := by
  unfold exD at h
  simp only [Bool.and_eq_true] at h
  exact h.1.2
theorem ex_ONE_levers {K : PySem.W.Frag} (h : exD K = true) : He.tupB K "ONE_levers" ([.int 1, .int 1].map dvD) = true := by
  unfold exD at h
  simp only [Bool.and_eq_true] at h
  exact h.2
def fnsD : List He.DefD := [df_divisor, df_fraction, df_plus, df_less, df_times, df_over, df_turned, df_lever, df_levers, df_weighed, df_lean, df_worth, df_part_at, df_sum_of, df_times_all, df_product, df_without_root, df_through, df_unsigned, df_opposite, df_room_of, df_first_error, df_level, df_bound, df_law_pot, df_law_draw, df_law_fraction, df_law_plus, df_law_less, df_law_times, df_law_by, df_law_is_fraction, df_law_numbers, df_law_value, df_law_weight, df_law_at, df_law_errors, df_law_unsigned, df_law_is_poly, df_law_reference, df_law_right, df_law]
def fasD : List He.Fa := [.glo "divisor", .glo "fraction", .glo "plus", .glo "less", .glo "times", .glo "over", .glo "turned", .glo "lever", .glo "levers", .glo "weighed", .glo "lean", .glo "worth", .glo "part_at", .glo "sum_of", .glo "times_all", .glo "product", .glo "without_root", .glo "through", .glo "unsigned", .glo "opposite", .glo "room_of", .glo "first_error", .glo "level", .glo "bound", .glo "_law_pot", .glo "_law_draw", .glo "_law_fraction", .glo "_law_plus", .glo "_law_less", .glo "_law_times", .glo "_law_by", .glo "_law_is_fraction", .glo "_law_numbers", .glo "_law_value", .glo "_law_weight", .glo "_law_at", .glo "_law_errors", .glo "_law_unsigned", .glo "_law_is_poly", .glo "_law_reference", .glo "_law_right", .glo "law", .glo "NOUGHT_fractions", .glo "NOUGHT_levers", .glo "ONE_fractions", .glo "ONE_levers", .glo "Twice", .exc "Twice"] ++ freeFa
abbrev RowR : PySem.W.OpenRow := PySem.W.OpenLaw.row PySem.Challenge.rw_evenerror_k23_level
abbrev hkD : PySem.W.Hook := He.hookX 4 fasD fnsD [] [] exD
def obD (s : PySem.W.SharedT) : He.AlX := He.obsX 4 fasD fnsD [] [] exD (HandSHeadRun.getT s)
theorem obD_eq (s : PySem.W.SharedT) : obD s = hkD.obs s.abs := He.obsX_eq (HandSHeadRun.getT_eq s)
def looseD : List Str := (["NOUGHT_fractions", "ONE_fractions", "divisor", "fraction", "plus", "less", "times", "over", "turned", "NOUGHT_levers", "ONE_levers", "lever", "levers", "weighed", "EvenError", "Twice", "lean", "worth", "part_at", "sum_of", "times_all", "product", "without_root", "through", "unsigned", "opposite", "room_of", "first_error", "level", "bound"] : List Str) ++ (["_law_pot", "_law_draw", "_law_fraction", "_law_plus", "_law_less", "_law_times", "_law_by", "_law_is_fraction", "_law_numbers", "_law_value", "_law_weight", "_law_at", "_law_errors", "_law_unsigned", "_law_is_poly", "_law_reference", "_law_right"] : List Str)
theorem runD (w : World) : HandSHeadRun.RunEq RowR (PySem.W.view RowR.prog [53]) hkD obD 8000 looseD w := by
  intro os
  kernel_rfl

def k_NOUGHT : D := .tup [.int 0, .int 1]
def k_ONE : D := .tup [.int 1, .int 1]
noncomputable def d_divisor : S3 :=
    (sSeq (sPar 2 3 (eCall fAbs (aCons (eVar 0) aNil)) (eCall fAbs (aCons (eVar 1) aNil)))
    (sSeq (sWhile (tE (eOp fGt (eVar 3) (eC (.int 0)))) (sPar 2 3 (eVar 3) (eOp fMod (eVar 2) (eVar 3))))
    (sRet (eVar 2))))
noncomputable def fn_divisor : Fn3 := run3 2 4 d_divisor
noncomputable def d_fraction : S3 :=
    (sSeq (sSet 2 (eCall fn_divisor (aCons (eVar 0) (aCons (eVar 1) aNil))))
    (sSeq (sIf (tE (eOp fLt (eVar 1) (eC (.int 0)))) (sSet 2 (eUn fNeg (eVar 2))) sNext)
    (sRet (eTup (aCons (eOp fFdiv (eVar 0) (eVar 2)) (aCons (eOp fFdiv (eVar 1) (eVar 2)) aNil))))))
noncomputable def fn_fraction : Fn3 := run3 2 3 d_fraction
noncomputable def d_plus : S3 :=
    (sRet (eCall fn_fraction (aCons (eOp fAdd (eOp fMul (eOp fIx (eVar 0) (eC (.int 0))) (eOp fIx (eVar 1) (eC (.int 1)))) (eOp fMul (eOp fIx (eVar 1) (eC (.int 0))) (eOp fIx (eVar 0) (eC (.int 1))))) (aCons (eOp fMul (eOp fIx (eVar 0) (eC (.int 1))) (eOp fIx (eVar 1) (eC (.int 1)))) aNil))))
noncomputable def fn_plus : Fn3 := run3 2 2 d_plus
noncomputable def d_less : S3 :=
    (sRet (eCall fn_fraction (aCons (eOp fSub (eOp fMul (eOp fIx (eVar 0) (eC (.int 0))) (eOp fIx (eVar 1) (eC (.int 1)))) (eOp fMul (eOp fIx (eVar 1) (eC (.int 0))) (eOp fIx (eVar 0) (eC (.int 1))))) (aCons (eOp fMul (eOp fIx (eVar 0) (eC (.int 1))) (eOp fIx (eVar 1) (eC (.int 1)))) aNil))))
noncomputable def fn_less : Fn3 := run3 2 2 d_less
noncomputable def d_times : S3 :=
    (sRet (eCall fn_fraction (aCons (eOp fMul (eOp fIx (eVar 0) (eC (.int 0))) (eOp fIx (eVar 1) (eC (.int 0)))) (aCons (eOp fMul (eOp fIx (eVar 0) (eC (.int 1))) (eOp fIx (eVar 1) (eC (.int 1)))) aNil))))
noncomputable def fn_times : Fn3 := run3 2 2 d_times
noncomputable def d_over : S3 :=
    (sRet (eCall fn_fraction (aCons (eOp fMul (eOp fIx (eVar 0) (eC (.int 0))) (eOp fIx (eVar 1) (eC (.int 1)))) (aCons (eOp fMul (eOp fIx (eVar 0) (eC (.int 1))) (eOp fIx (eVar 1) (eC (.int 0)))) aNil))))
noncomputable def fn_over : Fn3 := run3 2 2 d_over
noncomputable def d_sign : S3 :=
    (sRet (eOp fSub (eCall fIntOf (aCons (eOp fGt (eOp fIx (eVar 0) (eC (.int 0))) (eC (.int 0))) aNil)) (eCall fIntOf (aCons (eOp fLt (eOp fIx (eVar 0) (eC (.int 0))) (eC (.int 0))) aNil))))
noncomputable def fn_sign : Fn3 := run3 1 1 d_sign
noncomputable def d_is_below : S3 :=
    (sRet (eOp fLt (eOp fMul (eOp fIx (eVar 0) (eC (.int 0))) (eOp fIx (eVar 1) (eC (.int 1)))) (eOp fMul (eOp fIx (eVar 1) (eC (.int 0))) (eOp fIx (eVar 0) (eC (.int 1))))))
noncomputable def fn_is_below : Fn3 := run3 2 2 d_is_below
noncomputable def d_bare : S3 :=
    (sRet (eTup (aCons (eCall fAbs (aCons (eOp fIx (eVar 0) (eC (.int 0))) aNil)) (aCons (eOp fIx (eVar 0) (eC (.int 1))) aNil))))
noncomputable def fn_bare : Fn3 := run3 1 1 d_bare
noncomputable def d_turned : S3 :=
    (sRet (eTup (aCons (eUn fNeg (eOp fIx (eVar 0) (eC (.int 0)))) (aCons (eOp fIx (eVar 0) (eC (.int 1))) aNil))))
noncomputable def fn_turned : Fn3 := run3 1 1 d_turned
noncomputable def d_added : S3 :=
    (sSeq (sSet 1 (eC k_NOUGHT))
    (sSeq (sFor (iLT (eVar 0)) (gN 2) (sSet 1 (eCall fn_plus (aCons (eVar 1) (aCons (eVar 2) aNil)))))
    (sRet (eVar 1))))
noncomputable def fn_added : Fn3 := run3 1 3 d_added
noncomputable def d_greatest : S3 :=
    (sSeq (sSet 1 (eC k_NOUGHT))
    (sSeq (sFor (iLT (eVar 0)) (gN 2) (sIf (tE (eCall fn_is_below (aCons (eVar 1) (aCons (eVar 2) aNil)))) (sSet 1 (eVar 2)) sNext))
    (sRet (eVar 1))))
noncomputable def fn_greatest : Fn3 := run3 1 3 d_greatest
noncomputable def d_lean : S3 :=
    (sSeq (sSet 1 (eCall fLen (aCons (eVar 0) aNil)))
    (sSeq (sWhile (tAnd3 (tE (eOp fGt (eVar 1) (eC (.int 0)))) (tE (eOp fEq (eOp fIx (eVar 0) (eOp fSub (eVar 1) (eC (.int 1)))) (eC k_NOUGHT)))) (sSet 1 (eOp fSub (eVar 1) (eC (.int 1)))))
    (sRet (eCall fTuple (aCons (eSl (eVar 0) oNo (oSo (eVar 1))) aNil)))))
noncomputable def fn_lean : Fn3 := run3 1 2 d_lean
noncomputable def d_worth : S3 :=
    (sSeq (sSet 2 (eC k_NOUGHT))
    (sSeq (sFor (iRev (eVar 0)) (gN 3) (sSet 2 (eCall fn_plus (aCons (eCall fn_times (aCons (eVar 2) (aCons (eVar 1) aNil))) (aCons (eVar 3) aNil)))))
    (sRet (eVar 2))))
noncomputable def fn_worth : Fn3 := run3 2 4 d_worth
noncomputable def d_part_at : S3 :=
    (sSeq (sIf (tE (eOp fLt (eVar 1) (eCall fLen (aCons (eVar 0) aNil)))) (sRet (eOp fIx (eVar 0) (eVar 1))) sNext)
    (sRet (eC k_NOUGHT)))
noncomputable def fn_part_at : Fn3 := run3 2 2 d_part_at
noncomputable def d_sum_of : S3 :=
    (sSeq (sSet 2 (eCall fMax2 (aCons (eCall fLen (aCons (eVar 0) aNil)) (aCons (eCall fLen (aCons (eVar 1) aNil)) aNil))))
    (sRet (eCall fn_lean (aCons (eLc (iR1 (aCons (eVar 2) aNil)) (gN 3) tTrue (eCall fn_plus (aCons (eCall fn_part_at (aCons (eVar 0) (aCons (eVar 3) aNil))) (aCons (eCall fn_part_at (aCons (eVar 1) (aCons (eVar 3) aNil))) aNil))) [3]) aNil))))
noncomputable def fn_sum_of : Fn3 := run3 2 4 d_sum_of
noncomputable def d_times_all : S3 :=
    (sRet (eCall fn_lean (aCons (eLc (iLT (eVar 0)) (gN 2) tTrue (eCall fn_times (aCons (eVar 2) (aCons (eVar 1) aNil))) [2]) aNil)))
noncomputable def fn_times_all : Fn3 := run3 2 3 d_times_all
noncomputable def d_product : S3 :=
    (sSeq (sSet 2 (eOp fMul (eLst (aCons (eC k_NOUGHT) aNil)) (eOp fAdd (eCall fLen (aCons (eVar 0) aNil)) (eCall fLen (aCons (eVar 1) aNil)))))
    (sSeq (sFor (iEnB (eVar 0)) (gT 2 (gCons3 (gN 3) (gCons3 (gN 4) gNil3))) (sFor (iEnB (eVar 1)) (gT 2 (gCons3 (gN 5) (gCons3 (gN 6) gNil3))) (sAsg (eCall fn_plus (aCons (eOp fIx (eVar 2) (eOp fAdd (eVar 3) (eVar 5))) (aCons (eCall fn_times (aCons (eVar 4) (aCons (eVar 6) aNil))) aNil))) (gS (eVar 2) (eOp fAdd (eVar 3) (eVar 5))))))
    (sRet (eCall fn_lean (aCons (eVar 2) aNil)))))
noncomputable def fn_product : Fn3 := run3 2 7 d_product
noncomputable def d_slope : S3 :=
    (sRet (eCall fn_lean (aCons (eSl (eLc (iEnB (eVar 0)) (gT 2 (gCons3 (gN 1) (gCons3 (gN 2) gNil3))) tTrue (eCall fn_times (aCons (eVar 2) (aCons (eTup (aCons (eVar 1) (aCons (eC (.int 1)) aNil))) aNil))) [1, 2]) (oSo (eC (.int 1))) oNo) aNil)))
noncomputable def fn_slope : Fn3 := run3 1 3 d_slope
noncomputable def d_without_root : S3 :=
    (sRet (eTup (aCons (eCall fn_turned (aCons (eVar 0) aNil)) (aCons (eC k_ONE) aNil))))
noncomputable def fn_without_root : Fn3 := run3 1 1 d_without_root
noncomputable def d_through : S3 :=
    (sSeq (sSet 1 (eTup aNil))
    (sSeq (sSet 2 (eTup (aCons (eC k_ONE) aNil)))
    (sSeq (sFor (iLT (eVar 0)) (gT 2 (gCons3 (gN 3) (gCons3 (gN 4) gNil3))) (sSeq (sSet 5 (eCall fn_worth (aCons (eVar 2) (aCons (eVar 3) aNil))))
    (sSeq (sIf (tE (eOp fEq (eVar 5) (eC k_NOUGHT))) (sRaise "Twice") sNext)
    (sSeq (sSet 6 (eCall fn_over (aCons (eCall fn_less (aCons (eVar 4) (aCons (eCall fn_worth (aCons (eVar 1) (aCons (eVar 3) aNil))) aNil))) (aCons (eVar 5) aNil))))
    (sSeq (sSet 1 (eCall fn_sum_of (aCons (eVar 1) (aCons (eCall fn_times_all (aCons (eVar 2) (aCons (eVar 6) aNil))) aNil))))
    (sSet 2 (eCall fn_product (aCons (eVar 2) (aCons (eCall fn_without_root (aCons (eVar 3) aNil)) aNil)))))))))
    (sRet (eVar 1)))))
noncomputable def fn_through : Fn3 := run3 1 7 d_through
noncomputable def d_in_place : S3 :=
    (sSeq (sSet 3 (eTup (aCons (eCall fn_over (aCons (eCall fn_turned (aCons (eVar 2) aNil)) (aCons (eVar 1) aNil))) (aCons (eCall fn_over (aCons (eC k_ONE) (aCons (eVar 1) aNil))) aNil))))
    (sSeq (sSet 4 (eTup aNil))
    (sSeq (sFor (iRev (eVar 0)) (gN 5) (sSet 4 (eCall fn_sum_of (aCons (eCall fn_product (aCons (eVar 4) (aCons (eCall fn_lean (aCons (eVar 3) aNil)) aNil))) (aCons (eCall fn_lean (aCons (eLst (aCons (eVar 5) aNil)) aNil)) aNil)))))
    (sRet (eVar 4)))))
noncomputable def fn_in_place : Fn3 := run3 3 6 d_in_place
noncomputable def d_table_of : S3 :=
    (sSeq (sSet 1 (eLst aNil))
    (sSeq (sFor (iLT (eVar 0)) (gN 2) (sSeq (sSet 3 (eCall fLen (aCons (eLc (iLT (eVar 1)) (gN 4) (tE (eCall fn_is_below (aCons (eOp fIx (eVar 4) (eC (.int 0))) (aCons (eOp fIx (eVar 2) (eC (.int 0))) aNil)))) (eVar 4) [4]) aNil)))
    (sSeq (sIf (tAnd3 (tE (eOp fLt (eVar 3) (eCall fLen (aCons (eVar 1) aNil)))) (tE (eOp fEq (eOp fIx (eOp fIx (eVar 1) (eVar 3)) (eC (.int 0))) (eOp fIx (eVar 2) (eC (.int 0)))))) (sRaise "Twice") sNext)
    (sDrop (eMt "list" mInsert (eVar 1) (aCons (eVar 3) (aCons (eVar 2) aNil)))))))
    (sSeq (sFor (iLT (eVar 1)) (gN 2) (sIf (tE (eOp fLt (eCall fn_sign (aCons (eOp fIx (eVar 2) (eC (.int 2))) aNil)) (eC (.int 1)))) (sRaise "NoWeight") sNext))
    (sRet (eVar 1)))))
noncomputable def fn_table_of : Fn3 := run3 1 5 d_table_of
noncomputable def d_error_at : S3 :=
    (sRet (eCall fn_times (aCons (eOp fIx (eVar 0) (eC (.int 2))) (aCons (eCall fn_less (aCons (eOp fIx (eVar 0) (eC (.int 1))) (aCons (eCall fn_worth (aCons (eVar 1) (aCons (eOp fIx (eVar 0) (eC (.int 0))) aNil))) aNil))) aNil))))
noncomputable def fn_error_at : Fn3 := run3 2 2 d_error_at
noncomputable def d_errors_of : S3 :=
    (sRet (eLc (iLT (eVar 0)) (gN 2) tTrue (eCall fn_error_at (aCons (eVar 2) (aCons (eVar 1) aNil))) [2]))
noncomputable def fn_errors_of : Fn3 := run3 2 3 d_errors_of
noncomputable def d_size_of : S3 :=
    (sRet (eCall fn_greatest (aCons (eLc (iLT (eCall fn_errors_of (aCons (eVar 0) (aCons (eVar 1) aNil)))) (gN 2) tTrue (eCall fn_bare (aCons (eVar 2) aNil)) [2]) aNil)))
noncomputable def fn_size_of : Fn3 := run3 2 3 d_size_of
theorem trunc_nil {b : Bool} {L : Lh} : trunc [] (.bl b) L = .val (.bl b) [] := by unfold trunc; rw [if_pos (by simp), if_pos (show closed _ _ = true from rfl)]
/-- a fraction -/
def fr (q : Rat) : D := .tup [.int q.num, .int q.den]
@[simp] theorem gT_fr {gs : Tgs3} {q : Rat} {Γ : G3} {L : Lh} : gT 2 gs (fr q) Γ L = gs [.int q.num, .int q.den] Γ L := rfl
@[simp] theorem dat_fr {k : Nat} {L : Lh} {q : Rat} : dat (k + 2) L (fr q) = some (.tuple [.int q.num, .int q.den]) := rfl
@[simp] theorem shaped_t2 (a b : Int) : SeqAt.shaped (.tuple [.int a, .int b]) = true := (rfl)
@[simp] theorem shaped_fr {q : Rat} : SeqAt.shaped (.tuple [.int q.num, .int q.den]) = true := (rfl)
@[simp] theorem closed_fr (n : Nat) (q : Rat) : closed n (fr q) = true := (rfl)
@[simp] theorem closed_bl (n : Nat) (b : Bool) : closed n (.bl b) = true := (rfl)
@[simp] theorem closed_int (n : Nat) (b : Int) : closed n (.int b) = true := (rfl)
@[simp] theorem closed_non (n : Nat) : closed n .non = true := (rfl)
@[simp] theorem closed_str (n : Nat) (b : Str) : closed n (.str b) = true := (rfl)
@[simp] theorem closed_tup (n : Nat) (xs : List D) : closed n (.tup xs) = closeds n xs := (rfl)
@[simp] theorem closeds_nil (n : Nat) : closeds n [] = true := (rfl)
@[simp] theorem closeds_cons (n : Nat) (x : D) (xs : List D) : closeds n (x :: xs) = (closed n x && closeds n xs) := (rfl)
theorem frac_of {a b N : Int} {Dn : Nat} (hb : b ≠ 0) (hD : 0 < Dn) (hc : N.natAbs.Coprime Dn) (h : N * b = a * Dn) : fr (Rat.divInt a b) = .tup [.int N, .int Dn] := by
  have e : Rat.divInt a b = ⟨N, Dn, by omega, hc⟩ := by
    rw [Rat.mk_eq_divInt]
    rw [Rat.divInt_eq_divInt_iff hb (by omega)]
    exact h.symm
  rw [e]; rfl
theorem gcd_step {x y : Int} (hx : 0 ≤ x) (h : 0 < y) : Int.gcd x y = Int.gcd y (x % y) := by
  obtain ⟨a, rfl⟩ := Int.eq_ofNat_of_zero_le hx
  obtain ⟨b, rfl⟩ := Int.eq_ofNat_of_zero_le (Int.le_of_lt h)
  show Nat.gcd a b = Nat.gcd b (a % b)
  rw [Nat.gcd_comm a b, Nat.gcd_rec b a, Nat.gcd_comm]
/-- gcd by remainders: x at i, y at j -/
theorem while_gcd (Γf : Int → Int → G3) (c : T3) (b : S3) (L : Lh) (hc : ∀ x y, c (Γf x y) L = .val (decide (0 < y)) L) (hb : ∀ x y, 0 ≤ x → 0 < y → b (Γf x y) L = .nx (Γf y (x % y)) L) (x y : Int) (hx : 0 ≤ x) (hy : 0 ≤ y) :
    sWhile c b (Γf x y) L = .nx (Γf (Int.gcd x y) 0) L := by
  refine sWhile_inv (fun m Γ L' => L' = L ∧ ∃ x' y', Γ = Γf x' y' ∧ 0 ≤ x' ∧ 0 ≤ y' ∧ m = y'.toNat ∧ Int.gcd x' y' = Int.gcd x y) (fun o => o = .nx (Γf (Int.gcd x y) 0) L) (by simp) ?_ y.toNat (Γf x y) L ⟨rfl, x, y, rfl, hx, hy, rfl, rfl⟩
  rintro m Γ L' ⟨rfl, x', y', rfl, hx', hy', rfl, hg⟩
  by_cases h0 : 0 < y'
  · have b1 := Int.emod_nonneg x' (show y' ≠ 0 by omega)
    have b2 := Int.emod_lt_of_pos x' h0
    exact .inr ⟨L', by rw [hc, decide_eq_true h0], .inl ⟨_, _, _, .inl (hb x' y' hx' h0), by omega, rfl, y', x' % y', rfl, hy', b1, rfl, by rw [← gcd_step hx' h0, hg]⟩⟩
  · have e : y' = 0 := by omega
    subst e
    refine .inl ⟨L', by rw [hc]; rfl, ?_⟩
    rw [← hg]
    have : (Int.gcd x' 0 : Int) = x' := by simp; omega
    rw [this]
/-! ## functions of fractions -/
/-- less than n bits -/
def Bd (n : Nat) (a : Int) : Prop := a.natAbs < 2 ^ n
theorem cmul_of {n m : Nat} {a b : Int} (ha : Bd n a) (hb : Bd m b) (h : n + m ≤ 100000000) : CMulX a b := mulx_ok ha hb (Nat.le_trans h (by decide))
theorem Bd.mono {n m : Nat} {a : Int} (h : Bd n a) (hk : n ≤ m) : Bd m a := Nat.lt_of_lt_of_le h (Nat.pow_le_pow_right (by omega) hk)
theorem nopy {a b : Int} {n : Nat} (hb : Bd n b) (hn : n ≤ 9000) (h0 : 0 < n) : Builtin.divisionGoesByPylong a b = false := by
  have := PySem.Flt.log2_lt_of h0 hb
  unfold Builtin.divisionGoesByPylong
  simp only [Bool.and_eq_false_iff, decide_eq_false_iff_not]
  left
  split <;> omega
theorem abs_if (a : Int) : (if a < 0 then -a else a) = (a.natAbs : Int) := by omega
theorem fn_divisor_eq (a b : Int) (L : Lh) : fn_divisor [.int a, .int b] L = .val (.int (Int.gcd a b)) L := by
  have hw := while_gcd (fun x y => [some (.int a), some (.int b), some (.int x), some (.int y)]) (tE (eOp fGt (eVar 3) (eC (.int 0)))) (sPar 2 3 (eVar 3) (eOp fMod (eVar 2) (eVar 3))) L
    (by intro x y; simp) (by intro x y hx hy; simp [show y ≠ 0 by omega, Int.fmod_eq_emod_of_nonneg x (show 0 ≤ y by omega)]) (a.natAbs : Int) (b.natAbs : Int) (by omega) (by omega)
  have hg : Int.gcd (a.natAbs : Int) (b.natAbs : Int) = Int.gcd a b := by simp [Int.gcd]
  rw [hg] at hw
  refine run_ret (Γ0 := [some (.int a), some (.int b), none, none]) (d := .int (Int.gcd a b)) (L' := L) rfl rfl ?_ (trunc_same rfl)
  unfold d_divisor
  rw [seq_nx (Γ1 := [some (.int a), some (.int b), some (.int a.natAbs), some (.int b.natAbs)]) (L1 := L) (by simp [abs_if]), seq_nx hw]
  simp
theorem gcd_pos {a b : Int} (hb : b ≠ 0) : 0 < Int.gcd a b := by
  rcases Nat.eq_zero_or_pos (Int.gcd a b) with h | h
  · rw [Int.gcd_eq_zero_iff] at h; exact absurd h.2 hb
  · exact h
/-- what a and b over their divisor are -/
theorem frac_gcd (a b : Int) (hb : b ≠ 0) (s : Int) (hs : s = if b < 0 then -(Int.gcd a b : Int) else (Int.gcd a b : Int)) : D.tup [.int (a.fdiv s), .int (b.fdiv s)] = fr (Rat.divInt a b) := by
  have hg := gcd_pos (a := a) hb
  obtain ⟨a', ha⟩ := Int.gcd_dvd_left (a := a) (b := b)
  obtain ⟨b', hb'⟩ := Int.gcd_dvd_right (a := a) (b := b)
  have cop : Int.gcd a' b' = 1 := by
    have h1 : Int.gcd a b = Int.gcd a b * Int.gcd a' b' := by
      have h2 : Int.gcd ((Int.gcd a b : Int) * a') ((Int.gcd a b : Int) * b') = (Int.gcd a b : Int).natAbs * Int.gcd a' b' := Int.gcd_mul_left _ _ _
      rw [← ha, ← hb'] at h2
      simpa using h2
    have := Nat.eq_of_mul_eq_mul_left hg (show Int.gcd a b * Int.gcd a' b' = Int.gcd a b * 1 by omega)
    exact this
  generalize hgv : Int.gcd a b = g at *
  have hg0 : (g : Int) ≠ 0 := by omega
  by_cases hneg : b < 0
  · rw [if_pos hneg] at hs
    subst hs
    have e1 : a.fdiv (-(g : Int)) = -a' := by
      rw [ha, show (g : Int) * a' = (-(g : Int)) * (-a') by grind, Int.mul_fdiv_cancel_left _ (by omega)]
    have e2 : b.fdiv (-(g : Int)) = -b' := by
      rw [hb', show (g : Int) * b' = (-(g : Int)) * (-b') by grind, Int.mul_fdiv_cancel_left _ (by omega)]
    have hb2 : b' < 0 := by
      rcases Int.lt_or_le b' 0 with h | h
      · exact h
      · have := Int.mul_nonneg (show (0 : Int) ≤ g by omega) h
        omega
    rw [e1, e2, frac_of (N := -a') (Dn := (-b').toNat) hb (by omega) ?_ ?_]
    · rw [show (((-b').toNat : Nat) : Int) = -b' by omega]
    · show Nat.gcd _ _ = 1
      rw [show (-b').toNat = b'.natAbs by omega, show (-a').natAbs = a'.natAbs by omega]; exact cop
    · rw [show (((-b').toNat : Nat) : Int) = -b' by omega]; grind
  · rw [if_neg hneg] at hs
    subst hs
    have e1 : a.fdiv (g : Int) = a' := by rw [ha, Int.mul_fdiv_cancel_left _ hg0]
    have e2 : b.fdiv (g : Int) = b' := by rw [hb', Int.mul_fdiv_cancel_left _ hg0]
    have hb2 : 0 < b' := by
      rcases Int.lt_or_le 0 b' with h | h
      · exact h
      · have := Int.mul_nonneg (show (0 : Int) ≤ g by omega) (show 0 ≤ -b' by omega)
        rw [Int.mul_neg] at this
        omega
    rw [e1, e2, frac_of (N := a') (Dn := b'.toNat) hb (by omega) ?_ ?_]
    · rw [show ((b'.toNat : Nat) : Int) = b' by omega]
    · show Nat.gcd _ _ = 1
      rw [show b'.toNat = b'.natAbs by omega]; exact cop
    · rw [show ((b'.toNat : Nat) : Int) = b' by omega]; grind
theorem nat_pow_lt {n m k : Nat} (h : n < 2 ^ m) (hk : m ≤ k) : n < 2 ^ k := Nat.lt_of_lt_of_le h (Nat.pow_le_pow_right (by omega) hk)
theorem gcd_lt {a b : Int} (hb : b ≠ 0) {k : Nat} (h : b.natAbs < 2 ^ k) : Int.gcd a b < 2 ^ k := by
  have h1 : Int.gcd a b ∣ b.natAbs := by
    have := Int.gcd_dvd_right (a := a) (b := b)
    exact Int.natAbs_dvd_natAbs.mpr this |> fun z => by simpa using z
  exact Nat.lt_of_le_of_lt (Nat.le_of_dvd (by omega) h1) h
theorem fn_fraction_eq {a b : Int} (L : Lh) (hb : b ≠ 0) : fn_fraction [.int a, .int b] L = .val (fr (Rat.divInt a b)) L := by
  have hg := gcd_pos (a := a) hb
  unfold fn_fraction
  refine run_ret (Γ0 := [some (.int a), some (.int b), none]) (d := fr (Rat.divInt a b)) (L' := L) rfl rfl ?_ (trunc_same rfl)
  unfold d_fraction
  by_cases hb0 : b < 0
  · have e := frac_gcd a b hb (-(Int.gcd a b : Int)) (by rw [if_pos hb0])
    have c1 : (-(Int.gcd a b : Int)) ≠ 0 := by omega
    have c2 : Int.gcd a b ≠ 0 := by omega
    simp [fn_divisor_eq, hb0, c1, c2, e]
  · have e := frac_gcd a b hb (Int.gcd a b : Int) (by rw [if_neg hb0])
    have c2 : Int.gcd a b ≠ 0 := by omega
    simp [fn_divisor_eq, hb0, c2, e]
/-- sizes -/
def Sz (n : Nat) (q : Rat) : Prop := Bd n q.num ∧ Bd n q.den
theorem rat_add (p q : Rat) : Rat.divInt (p.num * q.den + q.num * p.den) (p.den * q.den) = p + q := by
  rw [Rat.add_def', ← Rat.divInt_ofNat]; simp
theorem rat_sub (p q : Rat) : Rat.divInt (p.num * q.den - q.num * p.den) (p.den * q.den) = p - q := by
  rw [Rat.sub_def', ← Rat.divInt_ofNat]; simp
theorem rat_mul (p q : Rat) : Rat.divInt (p.num * q.num) (p.den * q.den) = p * q := by
  rw [← Rat.divInt_mul_divInt, Rat.num_divInt_den, Rat.num_divInt_den]
theorem rat_div (p q : Rat) : Rat.divInt (p.num * q.den) (p.den * q.num) = p / q := by
  rw [Rat.div_def, Rat.inv_def, ← Rat.divInt_mul_divInt, Rat.num_divInt_den]
theorem sz_divInt {a b : Int} {n m : Nat} (hb : b ≠ 0) (h1 : Bd n a) (h2 : Bd m b) : Bd n (Rat.divInt a b).num ∧ Bd m (Rat.divInt a b).den := by
  have e : (Rat.divInt a b).num * b = a * (Rat.divInt a b).den := by
    have h := Rat.num_divInt_den (Rat.divInt a b)
    exact (Rat.divInt_eq_divInt_iff (by have := (Rat.divInt a b).den_pos; omega) hb).mp h
  have cop := (Rat.divInt a b).reduced
  have en : (Rat.divInt a b).num.natAbs * b.natAbs = a.natAbs * (Rat.divInt a b).den := by
    have := congrArg Int.natAbs e
    rw [Int.natAbs_mul, Int.natAbs_mul] at this
    simpa using this
  have d1 : (Rat.divInt a b).den ∣ b.natAbs := Nat.Coprime.dvd_of_dvd_mul_left cop.symm (by rw [en]; exact Nat.dvd_mul_left _ _)
  have d2 : (Rat.divInt a b).num.natAbs ∣ a.natAbs := Nat.Coprime.dvd_of_dvd_mul_right cop (by rw [← en]; exact Nat.dvd_mul_right _ _)
  refine ⟨?_, ?_⟩
  · by_cases ha : a = 0
    · subst ha
      rw [Rat.zero_divInt]
      exact Nat.two_pow_pos n
    · exact Nat.lt_of_le_of_lt (Nat.le_of_dvd (by omega) d2) h1
  · unfold Bd at h2 ⊢
    rw [show ((((Rat.divInt a b).den : Nat) : Int)).natAbs = (Rat.divInt a b).den from rfl]
    exact Nat.lt_of_le_of_lt (Nat.le_of_dvd (by omega) d1) h2
theorem Bd.mul {a b : Int} {n m : Nat} (h1 : Bd n a) (h2 : Bd m b) : Bd (n + m) (a * b) := by
  unfold Bd at h1 h2 ⊢
  rw [Int.natAbs_mul, Nat.pow_add]; exact Nat.mul_lt_mul'' h1 h2
theorem Bd.add {a b : Int} {n : Nat} (h1 : Bd n a) (h2 : Bd n b) : Bd (n + 1) (a + b) := by
  unfold Bd at h1 h2 ⊢
  have : (2 : Nat) ^ (n + 1) = 2 ^ n + 2 ^ n := by rw [Nat.pow_succ]; omega
  omega
theorem Bd.sub {a b : Int} {n : Nat} (h1 : Bd n a) (h2 : Bd n b) : Bd (n + 1) (a - b) := by
  unfold Bd at h1 h2 ⊢
  have : (2 : Nat) ^ (n + 1) = 2 ^ n + 2 ^ n := by rw [Nat.pow_succ]; omega
  omega
theorem Bd.neg {a : Int} {n : Nat} (h1 : Bd n a) : Bd n (-a) := by unfold Bd at h1 ⊢; rw [Int.natAbs_neg]; exact h1
theorem den_ne (p : Rat) : (p.den : Int) ≠ 0 := by have := p.den_pos; omega
theorem dens_ne (p q : Rat) : (p.den : Int) * q.den ≠ 0 := Int.mul_ne_zero (den_ne p) (den_ne q)
theorem num_ne {q : Rat} (h : q ≠ 0) : q.num ≠ 0 := fun z => h (Rat.num_eq_zero.mp z)
section
variable {p q : Rat} {n m k : Nat}
theorem Sz.mono (h : Sz n p) (hk : n ≤ k) : Sz k p := ⟨h.1.mono hk, h.2.mono hk⟩
theorem Sz.add (hp : Sz n p) (hq : Sz m q) : Sz (n + m + 1) (p + q) := by
  rw [← rat_add]
  have h1 := hp.1.mul hq.2
  have h2 := hq.1.mul hp.2
  rw [Nat.add_comm m n] at h2
  have := sz_divInt (dens_ne p q) (h1.add h2) (hp.2.mul hq.2)
  exact ⟨this.1, this.2.mono (by omega)⟩
theorem Sz.sub (hp : Sz n p) (hq : Sz m q) : Sz (n + m + 1) (p - q) := by
  rw [← rat_sub]
  have h1 := hp.1.mul hq.2
  have h2 := hq.1.mul hp.2
  rw [Nat.add_comm m n] at h2
  have := sz_divInt (dens_ne p q) (h1.sub h2) (hp.2.mul hq.2)
  exact ⟨this.1, this.2.mono (by omega)⟩
theorem Sz.mul (hp : Sz n p) (hq : Sz m q) : Sz (n + m) (p * q) := by
  rw [← rat_mul]
  exact sz_divInt (dens_ne p q) (hp.1.mul hq.1) (hp.2.mul hq.2)
theorem Sz.div (hp : Sz n p) (hq : Sz m q) (h0 : q ≠ 0) : Sz (n + m) (p / q) := by
  rw [← rat_div]
  exact sz_divInt (Int.mul_ne_zero (den_ne p) (num_ne h0)) (hp.1.mul hq.2) (hp.2.mul hq.1)
theorem Sz.neg (hp : Sz n p) : Sz n (-p) := ⟨by rw [Rat.neg_num]; exact hp.1.neg, by rw [Rat.neg_den]; exact hp.2⟩
/-- items of a fraction -/
@[simp] theorem itemsT_fr (L : Lh) (q : Rat) : itemsT (fr q) L = some [.int q.num, .int q.den] := rfl
@[simp] theorem atI_0 {α : Type} (x : α) (r : List α) : L2.atI (x :: r) 0 = some x := by simp [L2.atI, L2.ixN]
@[simp] theorem atI_1 {α : Type} (x y : α) (r : List α) : L2.atI (x :: y :: r) 1 = some y := by
  simp only [L2.atI, L2.ixN, List.length_cons]
  rw [if_pos (by omega), if_pos (by omega)]; rfl
@[simp] theorem atI_2 {α : Type} (x y z : α) (r : List α) : L2.atI (x :: y :: z :: r) 2 = some z := by
  simp only [L2.atI, L2.ixN, List.length_cons]
  rw [if_pos (by omega), if_pos (by omega)]; rfl
/-- not too great to be multiplied -/
def LIM : Nat := 60000000
def Fit (q : Rat) : Prop := Sz LIM q
theorem Fit.of (h : Sz n p) (hn : n ≤ LIM) : Fit p := h.mono hn
theorem Fit.le (h : Sz n p) (hn : n ≤ 60000000) : Fit p := h.mono hn
theorem fit_mul {a b : Int} (ha : Bd LIM a) (hb : Bd LIM b) : CMulX a b := mulx_ok ha hb (by decide)
@[simp] theorem mulS {a b : Int} {L : Lh} (ha : Bd LIM a) (hb : Bd LIM b) : fMul (.int a) (.int b) L = .val (.int (a * b)) L := by
  have := fit_mul ha hb
  simp [this]
theorem fn_plus_eq (L : Lh) (hp : Fit p) (hq : Fit q) : fn_plus [fr p, fr q] L = .val (fr (p + q)) L := by
  have e := fn_fraction_eq (a := p.num * q.den + q.num * p.den) (b := p.den * q.den) L (dens_ne p q)
  rw [rat_add] at e
  unfold fn_plus
  refine run_ret (Γ0 := [some (fr p), some (fr q)]) (d := fr (p + q)) (L' := L) rfl rfl ?_ (trunc_same rfl)
  unfold d_plus
  have c1 := fit_mul hp.1 hq.2
  have c2 := fit_mul hq.1 hp.2
  have c3 := fit_mul hp.2 hq.2
  simp [c1, c2, c3, e, fIx]
theorem fn_less_eq (L : Lh) (hp : Fit p) (hq : Fit q) : fn_less [fr p, fr q] L = .val (fr (p - q)) L := by
  have e := fn_fraction_eq (a := p.num * q.den - q.num * p.den) (b := p.den * q.den) L (dens_ne p q)
  rw [rat_sub] at e
  unfold fn_less
  refine run_ret (Γ0 := [some (fr p), some (fr q)]) (d := fr (p - q)) (L' := L) rfl rfl ?_ (trunc_same rfl)
  unfold d_less
  have c1 := fit_mul hp.1 hq.2
  have c2 := fit_mul hq.1 hp.2
  have c3 := fit_mul hp.2 hq.2
  simp [c1, c2, c3, e, fIx]
theorem fn_times_eq (L : Lh) (hp : Fit p) (hq : Fit q) : fn_times [fr p, fr q] L = .val (fr (p * q)) L := by
  have e := fn_fraction_eq (a := p.num * q.num) (b := p.den * q.den) L (dens_ne p q)
  rw [rat_mul] at e
  unfold fn_times
  refine run_ret (Γ0 := [some (fr p), some (fr q)]) (d := fr (p * q)) (L' := L) rfl rfl ?_ (trunc_same rfl)
  unfold d_times
  have c1 := fit_mul hp.1 hq.1
  have c3 := fit_mul hp.2 hq.2
  simp [c1, c3, e, fIx]
theorem fn_over_eq (L : Lh) (hp : Fit p) (hq : Fit q) (h0 : q ≠ 0) : fn_over [fr p, fr q] L = .val (fr (p / q)) L := by
  have e := fn_fraction_eq (a := p.num * q.den) (b := p.den * q.num) L (Int.mul_ne_zero (den_ne p) (num_ne h0))
  rw [rat_div] at e
  unfold fn_over
  refine run_ret (Γ0 := [some (fr p), some (fr q)]) (d := fr (p / q)) (L' := L) rfl rfl ?_ (trunc_same rfl)
  unfold d_over
  have c1 := fit_mul hp.1 hq.2
  have c3 := fit_mul hp.2 hq.1
  simp [c1, c3, e, fIx]
theorem rat_lt_num (p q : Rat) : (p.num * q.den < q.num * p.den) = (p < q) := by rw [Rat.lt_iff]
theorem fn_is_below_eq (L : Lh) (hp : Fit p) (hq : Fit q) : fn_is_below [fr p, fr q] L = .val (.bl (decide (p < q))) L := by
  unfold fn_is_below
  refine run_ret (Γ0 := [some (fr p), some (fr q)]) (d := .bl (decide (p < q))) (L' := L) rfl rfl ?_ (trunc_same rfl)
  unfold d_is_below
  have c1 := fit_mul hp.1 hq.2
  have c2 := fit_mul hq.1 hp.2
  simp [c1, c2, rat_lt_num, fIx]
/-- without its sign -/
def rabs (q : Rat) : Rat := if q < 0 then -q else q
theorem fr_abs (q : Rat) : fr (rabs q) = .tup [.int q.num.natAbs, .int q.den] := by
  have h2 : (q.num < 0) = (q < 0) := by rw [Rat.lt_iff]; simp
  unfold rabs
  split
  · rename_i h
    have h3 : q.num < 0 := by rw [h2]; exact h
    unfold fr; rw [Rat.neg_num, Rat.neg_den]
    congr 3; omega
  · rename_i h
    have h3 : ¬ q.num < 0 := by rw [h2]; exact h
    unfold fr
    congr 3; omega
theorem fn_bare_eq (L : Lh) : fn_bare [fr q] L = .val (fr (rabs q)) L := by
  unfold fn_bare
  refine run_ret (Γ0 := [some (fr q)]) (d := fr (rabs q)) (L' := L) rfl rfl ?_ (trunc_same rfl)
  unfold d_bare
  simp [fr_abs, abs_if, fIx]
theorem fn_turned_eq (L : Lh) (p : Rat) : fn_turned [fr p] L = .val (fr (-p)) L := by
  refine run_ret (Γ0 := [some (fr p)]) (d := fr (-p)) (L' := L) rfl rfl ?_ (trunc_same rfl)
  have e : fr (-p) = .tup [.int (-p.num), .int p.den] := by unfold fr; rw [Rat.neg_num, Rat.neg_den]
  unfold d_turned
  simp [e, fIx]
theorem Sz.abs (hp : Sz n p) : Sz n (rabs p) := by
  unfold rabs; split
  · exact hp.neg
  · exact hp
/-- the sign -/
def sgn (q : Rat) : Int := if 0 < q then 1 else if q < 0 then -1 else 0
theorem fn_sign_eq (L : Lh) (q : Rat) : fn_sign [fr q] L = .val (.int (sgn q)) L := by
  unfold fn_sign
  refine run_ret (Γ0 := [some (fr q)]) (d := .int (sgn q)) (L' := L) rfl rfl ?_ (trunc_same rfl)
  unfold d_sign
  have h1 : (0 < q.num) = (0 < q) := by
    rw [Rat.lt_iff]; simp
  have h2 : (q.num < 0) = (q < 0) := by
    rw [Rat.lt_iff]; simp
  simp [h1, h2, fIx]
  unfold sgn
  by_cases a : 0 < q
  · have b : ¬ q < 0 := by grind
    simp [a, b]
  · by_cases b : q < 0 <;> simp [a, b]
end
/-- a pot at n -/
def PotAt (L : Lh) (n : Nat) : Prop := ∃ p q : Int, L[n]? = some (.lst [.int p, .int q]) ∧ 0 ≤ p ∧ 0 ≤ q ∧ q < 4294967296
/-- only the cell at n changed -/
structure But (n : Nat) (L L' : Lh) : Prop where
  len : L'.length = L.length
  at_ : ∀ m, m ≠ n → L'[m]? = L[m]?
theorem But.refl (n : Nat) (L : Lh) : But n L L := ⟨rfl, fun _ _ => rfl⟩
theorem But.trans {n : Nat} {L L1 L2 : Lh} (a : But n L L1) (b : But n L1 L2) : But n L L2 := ⟨b.len.trans a.len, fun m h => (b.at_ m h).trans (a.at_ m h)⟩
theorem But.set {n : Nat} {L : Lh} {c : Cell} : But n L (L.set n c) := ⟨by simp, fun m h => by rw [List.getElem?_set_ne (Ne.symm h)]⟩
theorem nopy_small {a j : Int} (h : j.natAbs < 2 ^ 60) : Builtin.divisionGoesByPylong a j = false := nopy (n := 60) h (by decide) (by decide)
theorem trunc_gen {L L' : Lh} {d : D} (h : closed L.length d = true) (h2 : L'.length = L.length) : trunc L d L' = .val d L' := by
  by_cases e : L' = L
  · subst e; exact trunc_same h
  · refine trunc_other fun z => e ?_
    rw [← h2, List.take_length] at z; exact z
theorem potAt_new {L : Lh} {p q : Int} (h0 : 0 ≤ p) (h1 : 0 ≤ q) (h2 : q < 4294967296) : PotAt (L ++ [.lst [.int p, .int q]]) L.length := ⟨p, q, by simp, h0, h1, h2⟩
theorem atI_some {α : Type} {xs : List α} {k : Nat} (h : k < xs.length) : L2.atI xs (k : Int) = some xs[k] := L2.atI_nat (List.getElem?_eq_getElem h)
theorem Bd12 {a : Int} (h : a.natAbs < 10 ^ 12) : Bd 40 a := by unfold Bd; omega
theorem fr_int (i : Int) : fr (i : Rat) = .tup [.int i, .int 1] := by unfold fr; simp
@[simp] theorem kit1 : kitB "int" "int" = some true := by decide +kernel
@[simp] theorem kit2 : kitB "int" "bool" = some false := by decide +kernel
@[simp] theorem kit3 : kitB "tuple" "tuple" = some true := by decide +kernel
@[simp] theorem tyName_fr (q : Rat) (L : Lh) : tyName (fr q) L = some "tuple" := rfl
/-! ## polynomials: lists of fractions -/
def pol (ps : List Rat) : D := .tup (ps.map fr)
def datF (q : Rat) : PyData := .tuple [.int q.num, .int q.den]
theorem fr_inj {p q : Rat} (h1 : p.num = q.num) (h2 : p.den = q.den) : p = q := Rat.ext h1 h2
@[simp high] theorem eqv_fr (p q : Rat) : PyData.eqv (.tuple [.int p.num, .int p.den]) (.tuple [.int q.num, .int q.den]) = decide (p = q) := by
  rw [eqv_tuple, eqv_cons, eqv_cons, eqv_nil, eqv_int, eqv_int]
  by_cases h : p = q
  · subst h; simp
  · rw [decide_eq_false h]
    by_cases h1 : p.num = q.num
    · have h2 : ¬ ((p.den : Int) = q.den) := fun z => h (fr_inj h1 (by omega))
      simp [h1, h2]
    · simp [h1]
theorem eqv_frs : ∀ ps qs : List Rat, PyData.eqvAll (ps.map datF) (qs.map datF) = decide (ps = qs)
  | [], [] => by simp
  | [], q :: qs => by simp
  | p :: ps, [] => by simp
  | p :: ps, q :: qs => by
    rw [List.map_cons, List.map_cons, eqv_cons, eqv_frs ps qs]
    unfold datF
    rw [eqv_fr]
    by_cases h : p = q <;> by_cases h2 : ps = qs <;> simp [h, h2]
theorem canLay_frs : ∀ ps : List Rat, PyData.canLayAll0 (ps.map datF) = true
  | [] => by simp [PyData.canLayAll0]
  | p :: ps => by simp [PyData.canLayAll0, canLay_frs ps, datF, PyData.canLay0]
theorem depth_frs : ∀ ps : List Rat, PyData.depthAll (ps.map datF) ≤ 1
  | [] => by simp [PyData.depthAll]
  | p :: ps => by
    have := depth_frs ps
    simp [PyData.depthAll, datF, PyData.depth]
    omega
@[simp] theorem shaped_frs (ps : List Rat) : SeqAt.shaped (.tuple (ps.map datF)) = true := by
  have h := depth_frs ps
  unfold SeqAt.shaped
  rw [Bool.and_eq_true]
  exact ⟨by simp only [PyData.canLay0]; exact canLay_frs ps, decide_eq_true (by simp only [PyData.depth]; omega)⟩
@[simp] theorem shaped_frsL (ps : List Rat) : SeqAt.shaped (.list (ps.map datF)) = true := by
  have h := depth_frs ps
  unfold SeqAt.shaped
  rw [Bool.and_eq_true]
  exact ⟨by simp only [PyData.canLay0]; exact canLay_frs ps, decide_eq_true (by simp only [PyData.depth]; omega)⟩
theorem opts_frs (k : Nat) (L : Lh) : ∀ ps : List Rat, opts (dat (k + 2) L) (ps.map fr) = some (ps.map datF)
  | [] => rfl
  | p :: ps => opts_cons rfl (opts_frs k L ps)
@[simp] theorem dat_pol {L : Lh} {ps : List Rat} : dat 8 L (pol ps) = some (.tuple (ps.map datF)) := by
  unfold pol
  rw [dat_tup, opts_frs]; rfl
theorem dat_frsL {L : Lh} {n : Nat} {ps : List Rat} (h : L[n]? = some (.lst (ps.map fr))) : dat 8 L (.loc n) = some (.list (ps.map datF)) := by
  rw [dat_loc h, opts_frs]; rfl
@[simp high] theorem eqv_pol (ps qs : List Rat) : PyData.eqv (.tuple (ps.map datF)) (.tuple (qs.map datF)) = decide (ps = qs) := by rw [eqv_tuple, eqv_frs]
theorem closeds_frs (n : Nat) : ∀ ps : List Rat, closeds n (ps.map fr) = true
  | [] => rfl
  | p :: ps => by rw [List.map_cons, closeds, closed_fr, closeds_frs n ps]; rfl
@[simp] theorem closed_pol (n : Nat) (ps : List Rat) : closed n (pol ps) = true := closeds_frs n ps
@[simp] theorem itemsT_pol {L : Lh} {ps : List Rat} : itemsT (pol ps) L = some (ps.map fr) := rfl
@[simp] theorem tupI_pol {ps : List Rat} : tupI (pol ps) = some ⟨ps.map fr, fun _ => True⟩ := rfl
@[simp] theorem tyName_pol {L : Lh} {ps : List Rat} : tyName (pol ps) L = some "tuple" := rfl
theorem k0 : k_NOUGHT = fr 0 := rfl
theorem k1 : k_ONE = fr 1 := rfl
/-- without noughts at the end -/
def trim : List Rat → List Rat
  | [] => []
  | c :: r => match trim r with
    | [] => if c = 0 then [] else [c]
    | d :: s => c :: d :: s
theorem trim_zero : ∀ {ps : List Rat}, (∀ p ∈ ps, p = 0) → trim ps = []
  | [], _ => rfl
  | c :: r, h => by
    rw [trim, trim_zero fun p hp => h p (by simp [hp])]
    simp [h c (by simp)]
theorem trim_take : ∀ (ps : List Rat) (j : Nat), j ≤ ps.length → (∀ k, j ≤ k → ∀ h : k < ps.length, ps[k] = 0) → (j = 0 ∨ ∃ h : j - 1 < ps.length, ps[j - 1] ≠ 0) → ps.take j = trim ps
  | [], j, hj, _, _ => by simp [trim]
  | c :: r, 0, hj, hz, _ => by
    rw [List.take_zero, trim_zero fun p hp => ?_]
    obtain ⟨k, hk, e⟩ := List.mem_iff_getElem.mp hp
    rw [← e]; exact hz k (by omega) hk
  | c :: r, j + 1, hj, hz, hn => by
    have ih := trim_take r j (by simpa using hj) (fun k hk h => by
      have := hz (k + 1) (by omega) (by simpa using h)
      simpa using this) (by
      rcases Nat.eq_zero_or_pos j with h0 | h0
      · exact .inl h0
      · obtain ⟨h1, h2⟩ := hn.resolve_left (by omega)
        refine .inr ⟨by simp at hj; omega, ?_⟩
        have e : j + 1 - 1 = (j - 1) + 1 := by omega
        simp only [e, List.getElem_cons_succ] at h2
        exact h2)
    rw [List.take_succ_cons, ih, trim]
    cases ht : trim r with
    | cons d s => rfl
    | nil =>
      rw [ht] at ih
      have hj0 : j = 0 := by
        rcases Nat.eq_zero_or_pos j with h | h
        · exact h
        · have := congrArg List.length ih
          rw [List.length_take, List.length_nil] at this; rw [List.length_cons] at hj; omega
      subst hj0
      obtain ⟨h1, h2⟩ := hn.resolve_left (by omega)
      have h3 : c ≠ 0 := by simpa using h2
      simp [h3]
/-- a sequence of fractions: a tuple, or a list of the cells -/
inductive SeqF (L : Lh) (ps : List Rat) : D → Prop where
  | tup : SeqF L ps (pol ps)
  | lst {n : Nat} (h : L[n]? = some (.lst (ps.map fr))) : SeqF L ps (.loc n)
theorem SeqF.items {L : Lh} {ps : List Rat} {x : D} (s : SeqF L ps x) : itemsT x L = some (ps.map fr) := by
  cases s with
  | tup => rfl
  | lst h => exact items_loc h
theorem cutD_take (xs : List D) (j : Nat) (h : j ≤ xs.length) : cutD xs none (some (j : Int)) = xs.take j := by
  unfold cutD
  rw [HT.sIx_none, HT.sIx_nat, Nat.min_eq_left h]; simp
theorem cutD_drop (xs : List D) (j : Nat) : cutD xs (some (j : Int)) none = xs.drop j := by
  unfold cutD
  rw [HT.sIx_none, HT.sIx_nat]
  rw [List.take_of_length_le (by simp)]
  rcases Nat.le_total j xs.length with h | h
  · rw [Nat.min_eq_left h]
  · rw [Nat.min_eq_right h, List.drop_of_length_le (Nat.le_refl _), List.drop_of_length_le h]
theorem frs_at {ps : List Rat} {k : Nat} (h : k < ps.length) : L2.atI (ps.map fr) (k : Int) = some (fr ps[k]) := by
  rw [atI_some (xs := ps.map fr) (by simpa using h)]; simp
theorem fn_lean_eq {L : Lh} {ps : List Rat} {x : D} (s : SeqF L ps x) : fn_lean [x] L = .val (pol (trim ps)) L := by
  have hi := s.items
  have run : ∀ L', d_lean [some x, none] L = .ret (pol (trim ps)) (L ++ L') → fn_lean [x] L = .val (pol (trim ps)) L := fun L' e =>
    run_ret (Γ0 := [some x, none]) rfl rfl e (trunc_flat (closed_pol _ _))
  have loop : ∃ j : Nat, j ≤ ps.length ∧ ps.take j = trim ps ∧ sWhile (tAnd3 (tE (eOp fGt (eVar 1) (eC (.int 0)))) (tE (eOp fEq (eOp fIx (eVar 0) (eOp fSub (eVar 1) (eC (.int 1)))) (eC k_NOUGHT)))) (sSet 1 (eOp fSub (eVar 1) (eC (.int 1)))) [some x, some (.int ps.length)] L = .nx [some x, some (.int j)] L := by
    refine sWhile_inv (fun m Γ L' => L' = L ∧ m ≤ ps.length ∧ Γ = [some x, some (.int m)] ∧ ∀ k, m ≤ k → ∀ h : k < ps.length, ps[k] = 0) (fun o => ∃ j : Nat, j ≤ ps.length ∧ ps.take j = trim ps ∧ o = .nx [some x, some (.int j)] L) (by simp) ?_ ps.length _ L ⟨rfl, Nat.le_refl _, rfl, fun k h1 h2 => absurd h2 (by omega)⟩
    rintro m Γ L' ⟨rfl, hm, rfl, hz⟩
    cases m with
    | zero => exact .inl ⟨L', by simp, 0, by omega, trim_take ps 0 (by omega) hz (.inl rfl), rfl⟩
    | succ m =>
      have hat := frs_at (ps := ps) (k := m) (by omega)
      have e1 : ((m + 1 : Nat) : Int) - 1 = (m : Int) := by omega
      have hpos : (0 : Int) < ((m + 1 : Nat) : Int) := by omega
      by_cases h0 : ps[m]'(by omega) = 0
      · refine .inr ⟨L', by simp [hi, hat, k0, h0, e1, fIx, fEq, cmpD], .inl ⟨[some x, some (.int m)], L', m, .inl (by simp [e1]), by omega, rfl, by omega, rfl, fun k hk h => ?_⟩⟩
        rcases Nat.eq_or_lt_of_le hk with e | e
        · subst e; exact h0
        · exact hz k e h
      · exact .inl ⟨L', by simp [hi, hat, k0, h0, e1, fIx, fEq, cmpD], m + 1, hm, trim_take ps (m + 1) hm hz (.inr ⟨by simp; omega, by simpa using h0⟩), rfl⟩
  obtain ⟨j, hj, ht, loop⟩ := loop
  have hj' : j ≤ (ps.map fr).length := by simpa using hj
  cases s with
  | tup =>
    refine run [] ?_
    unfold d_lean
    rw [List.append_nil, seq_nx (Γ1 := [some (pol ps), some (.int ps.length)]) (L1 := L) (by simp), seq_nx loop]
    have e : sliceD (pol ps) none (some (j : Int)) L = .val (pol (trim ps)) L := by
      unfold pol
      rw [sliceD_tup, cutD_take _ _ hj', ← List.map_take, ht]
    have e2 : fTuple [pol (trim ps)] L = .val (pol (trim ps)) L := rfl
    simp [e, ← ht, -fTuple]
    rw [ht, e2]
  | @lst n h =>
    refine run [.lst ((trim ps).map fr)] ?_
    unfold d_lean
    rw [seq_nx (Γ1 := [some (.loc n), some (.int ps.length)]) (L1 := L) (by simp [items_loc h]), seq_nx loop]
    have e : sliceD (.loc n) none (some (j : Int)) L = .val (.loc L.length) (L ++ [.lst ((trim ps).map fr)]) := by
      rw [sliceD_loc h, cutD_take _ _ hj', ← List.map_take, ht]
    have e2 : items (.loc L.length) (L ++ [.lst ((trim ps).map fr)]) = some ((trim ps).map fr) := items_loc (by simp)
    simp [e, e2]
    rfl
/-! ## a fraction over D, above at most B -/
def Ov (D B : Nat) (q : Rat) : Prop := ∃ N : Int, q * (D : Rat) = (N : Rat) ∧ N.natAbs ≤ B
section
variable {D E B C : Nat} {p q : Rat}
theorem natR_ne (h : 0 < D) : (D : Rat) ≠ 0 := by
  intro z
  have : ((D : Int) : Rat) = ((0 : Int) : Rat) := z
  have := Rat.intCast_inj.mp this
  omega
theorem Ov.eq (hD : 0 < D) (h : Ov D B q) : ∃ N : Int, q = Rat.divInt N D ∧ N.natAbs ≤ B := by
  obtain ⟨N, e, h⟩ := h
  refine ⟨N, ?_, h⟩
  have hD' := natR_ne hD
  rw [Rat.divInt_eq_div]
  show q = (N : Rat) / (D : Rat)
  rw [← e]; grind
theorem Ov.sz {k : Nat} (hD : 0 < D) (h : Ov D B q) (h1 : D < 2 ^ k) (h2 : B < 2 ^ k) : Sz k q := by
  obtain ⟨N, rfl, h⟩ := h.eq hD
  exact sz_divInt (by omega) (show N.natAbs < 2 ^ k by omega) (show (D : Int).natAbs < 2 ^ k by simpa using h1)
theorem Ov.mono (h : Ov D B q) (hk : B ≤ C) : Ov D C q := let ⟨N, e, h⟩ := h; ⟨N, e, by omega⟩
theorem Ov.zero : Ov D B 0 := ⟨0, by simp, by simp⟩
theorem Ov.add (h1 : Ov D B p) (h2 : Ov D C q) : Ov D (B + C) (p + q) := by
  obtain ⟨N, e, h⟩ := h1
  obtain ⟨M, f, g⟩ := h2
  exact ⟨N + M, by rw [Rat.intCast_add, ← e, ← f]; grind, by omega⟩
theorem Ov.neg (h1 : Ov D B p) : Ov D B (-p) := by
  obtain ⟨N, e, h⟩ := h1
  exact ⟨-N, by rw [Rat.intCast_neg, ← e]; grind, by omega⟩
theorem Ov.sub (h1 : Ov D B p) (h2 : Ov D C q) : Ov D (B + C) (p - q) := by
  rw [Rat.sub_eq_add_neg]; exact h1.add h2.neg
theorem Ov.mul (h1 : Ov D B p) (h2 : Ov E C q) : Ov (D * E) (B * C) (p * q) := by
  obtain ⟨N, e, h⟩ := h1
  obtain ⟨M, f, g⟩ := h2
  refine ⟨N * M, ?_, by rw [Int.natAbs_mul]; exact Nat.mul_le_mul h g⟩
  rw [Rat.intCast_mul, ← e, ← f, Rat.natCast_mul]; grind
theorem Ov.up (h1 : Ov D B p) (k : Nat) : Ov (D * k) (B * k) p := by
  have := h1.mul (q := 1) (E := k) (C := k) ⟨k, by rw [Rat.one_mul]; rfl, by simp⟩
  rwa [Rat.mul_one] at this
theorem Ov.up' (h1 : Ov D B p) (k : Nat) : Ov (k * D) (k * B) p := by
  rw [Nat.mul_comm k, Nat.mul_comm k]; exact h1.up k
theorem ov_of_sz {n : Nat} (h : Sz n q) : Ov q.den (2 ^ n) q := ⟨q.num, by
  have h1 := Rat.num_divInt_den q
  have h2 := natR_ne q.den_pos
  rw [Rat.divInt_eq_div] at h1
  have h3 : (q.num : Rat) / ((q.den : Nat) : Rat) = q := h1
  grind, Nat.le_of_lt h.1⟩
theorem ov_int (i : Int) (h : i.natAbs ≤ B) : Ov 1 B (i : Rat) := ⟨i, by simp, h⟩
end
/-- all of a list over D -/
def PO (D B : Nat) (ps : List Rat) : Prop := ∀ p ∈ ps, Ov D B p
theorem PO.nil {D B : Nat} : PO D B [] := fun _ h => nomatch h
theorem PO.mono {D B C : Nat} {ps : List Rat} (h : PO D B ps) (hk : B ≤ C) : PO D C ps := fun p hp => (h p hp).mono hk
theorem PO.up {D B : Nat} {ps : List Rat} (h : PO D B ps) (k : Nat) : PO (D * k) (B * k) ps := fun p hp => (h p hp).up k
theorem PO.up' {D B : Nat} {ps : List Rat} (h : PO D B ps) (k : Nat) : PO (k * D) (k * B) ps := fun p hp => (h p hp).up' k
/-- fractions of n bits have a common bottom -/
theorem po_of_sz {n : Nat} : ∀ {ps : List Rat}, (∀ p ∈ ps, Sz n p) → ∃ D, 0 < D ∧ D ≤ 2 ^ (n * ps.length) ∧ PO D (2 ^ (n * ps.length)) ps
  | [], _ => ⟨1, by decide, by simp, PO.nil⟩
  | p :: ps, h => by
    obtain ⟨D, h1, h2, h3⟩ := po_of_sz (ps := ps) fun q hq => h q (by simp [hq])
    have hp := h p (by simp)
    have hd : p.den ≤ 2 ^ n := Nat.le_of_lt (by have := hp.2; unfold Bd at this; simpa using this)
    have e : 2 ^ (n * (p :: ps).length) = 2 ^ n * 2 ^ (n * ps.length) := by rw [List.length_cons, Nat.mul_succ, Nat.add_comm, Nat.pow_add]
    refine ⟨p.den * D, Nat.mul_pos p.den_pos h1, by rw [e]; exact Nat.mul_le_mul hd h2, fun q hq => ?_⟩
    rcases List.mem_cons.mp hq with rfl | hq
    · rw [e]; exact ((ov_of_sz hp).up D).mono (Nat.mul_le_mul (Nat.le_refl _) h2)
    · rw [e]; exact ((h3 q hq).up' p.den).mono (Nat.mul_le_mul hd (Nat.le_refl _))
theorem lt_pow_succ {a k : Nat} (h : a ≤ 2 ^ k) : a < 2 ^ (k + 1) := by rw [Nat.pow_succ]; have := Nat.two_pow_pos k; omega
theorem lt_pow_of {a k m : Nat} (h : a ≤ 2 ^ k) (hk : k < m) : a < 2 ^ m := Nat.lt_of_lt_of_le (lt_pow_succ h) (Nat.pow_le_pow_right (by decide) hk)
theorem Ov.szb {D B d b k : Nat} {q : Rat} (h : Ov D B q) (hD : 0 < D) (h1 : D ≤ 2 ^ d) (h2 : B ≤ 2 ^ b) (hd : d < k) (hb : b < k) : Sz k q := h.sz hD (lt_pow_of h1 hd) (lt_pow_of h2 hb)
/-! ## without noughts at the end -/
theorem mem_trim : ∀ {ps : List Rat} {p : Rat}, p ∈ trim ps → p ∈ ps
  | [], _, h => nomatch h
  | c :: r, p, h => by
    rw [trim] at h
    have ih := @mem_trim r
    split at h
    · split at h
      · exact nomatch h
      · simp at h; simp [h]
    · rename_i d s e
      rcases List.mem_cons.mp h with rfl | h
      · simp
      · rw [← e] at h
        exact List.mem_cons_of_mem _ (ih h)
theorem PO.trim {D B : Nat} {ps : List Rat} (h : PO D B ps) : PO D B (trim ps) := fun p hp => h p (mem_trim hp)
theorem trim_len : ∀ ps : List Rat, (trim ps).length ≤ ps.length
  | [] => Nat.le_refl _
  | c :: r => by
    have ih := trim_len r
    rw [trim]
    split
    · split <;> simp
    · rename_i d s e
      rw [e] at ih
      simp at ih ⊢; omega
theorem trim_cons_ne {c : Rat} {r : List Rat} (h : c ≠ 0) : trim (c :: r) = c :: trim r := by
  rw [trim]; split
  · rename_i e; rw [if_neg h, e]
  · rename_i e; rw [e]
theorem trim_trim : ∀ ps : List Rat, trim (trim ps) = trim ps
  | [] => rfl
  | c :: r => by
    have ih := trim_trim r
    rw [trim]
    cases e : trim r with
    | nil =>
      by_cases h : c = 0
      · simp [h, trim]
      · simp only [if_neg h]; rw [trim_cons_ne h, trim]
    | cons d s =>
      rw [e] at ih
      simp only []
      rw [trim, ih]
/-- what a polynomial is at x -/
def ev (ps : List Rat) (x : Rat) : Rat := ps.foldr (fun p f => f * x + p) 0
@[simp] theorem ev_nil (x : Rat) : ev [] x = 0 := rfl
@[simp] theorem ev_cons (p : Rat) (ps : List Rat) (x : Rat) : ev (p :: ps) x = ev ps x * x + p := rfl
theorem ev_trim : ∀ (ps : List Rat) (x : Rat), ev (trim ps) x = ev ps x
  | [], _ => rfl
  | c :: r, x => by
    have ih := ev_trim r x
    rw [trim]
    split
    · rename_i e
      rw [e] at ih
      split
      · rename_i h0; rw [ev_cons, ← ih, h0]; simp; grind
      · rw [ev_cons, ev_cons, ← ih]
    · rename_i d s e
      rw [e] at ih
      rw [ev_cons, ih, ← ev_cons]
/-- the size of a worth -/
theorem ov_ev {D B E M : Nat} {x : Rat} (hx : Ov E M x) : ∀ {r : List Rat}, PO D B r → ∀ K, (hM : E ≤ M) → r.length ≤ K → Ov (D * E ^ K) (r.length * (B * M ^ K)) (ev r x)
  | [], _, K, _, _ => by simpa using Ov.zero
  | p :: r, h, 0, _, hk => absurd hk (by simp)
  | p :: r, h, K + 1, hM, hk => by
    have h1 := ov_ev hx (r := r) (fun q hq => h q (by simp [hq])) K hM (by simpa using hk)
    have h2 := (h1.mul hx)
    have h3 : Ov (D * E ^ (K + 1)) (B * M ^ (K + 1)) p := ((h p (by simp)).up (E ^ (K + 1))).mono (Nat.mul_le_mul (Nat.le_refl _) (Nat.pow_le_pow_left hM _))
    have e1 : D * E ^ K * E = D * E ^ (K + 1) := by rw [Nat.pow_succ, Nat.mul_assoc]
    have e2 : r.length * (B * M ^ K) * M = r.length * (B * M ^ (K + 1)) := by rw [Nat.pow_succ]; ac_rfl
    rw [e1, e2] at h2
    have := h2.add h3
    rw [ev_cons, List.length_cons, Nat.succ_mul]
    exact this
/-! ## the place of a fraction -/
def at0 (ps : List Rat) (k : Nat) : Rat := ps.getD k 0
theorem at0_lt {ps : List Rat} {k : Nat} (h : k < ps.length) : at0 ps k = ps[k] := by unfold at0; simp [h]
theorem at0_ge {ps : List Rat} {k : Nat} (h : ps.length ≤ k) : at0 ps k = 0 := by
  unfold at0; rw [List.getD_eq_getElem?_getD, List.getElem?_eq_none h]; rfl
theorem PO.at0 {D B : Nat} {ps : List Rat} (h : PO D B ps) (k : Nat) : Ov D B (at0 ps k) := by
  by_cases hk : k < ps.length
  · rw [at0_lt hk]; exact h _ (List.getElem_mem _)
  · rw [at0_ge (by omega)]; exact Ov.zero
theorem fn_part_at_eq (L : Lh) (ps : List Rat) (k : Nat) : fn_part_at [pol ps, .int k] L = .val (fr (at0 ps k)) L := by
  refine run_ret (Γ0 := [some (pol ps), some (.int k)]) (d := fr (at0 ps k)) (L' := L) rfl rfl ?_ (trunc_same rfl)
  unfold d_part_at
  by_cases h : k < ps.length
  · rw [at0_lt h]
    simp [h, frs_at h, fIx]
  · rw [at0_ge (by omega)]
    simp [h, k0]
def psum (a b : List Rat) : List Rat := trim ((List.range (max a.length b.length)).map fun k => at0 a k + at0 b k)
theorem PO.psum {D B C : Nat} {a b : List Rat} (h1 : PO D B a) (h2 : PO D C b) : PO D (B + C) (psum a b) := by
  refine PO.trim fun p hp => ?_
  obtain ⟨k, _, rfl⟩ := List.mem_map.mp hp
  exact (h1.at0 k).add (h2.at0 k)
theorem chkT : (fun _ : Lh => True) = fun _ => True := rfl
theorem rngD_eq (n : Nat) : rngD 0 n = (List.range n).map fun k => D.int (k : Nat) := by
  unfold rngD; simp
/-! ## sizes, by their shape -/
def SzP (n : Nat) (ps : List Rat) : Prop := ∀ p ∈ ps, Sz n p
def FitP (ps : List Rat) : Prop := ∀ p ∈ ps, Fit p
theorem SzP.mono {n m : Nat} {ps : List Rat} (h : SzP n ps) (hm : n ≤ m) : SzP m ps := fun p hp => (h p hp).mono hm
theorem FitP.of {n : Nat} {ps : List Rat} (h : SzP n ps) (hm : n ≤ LIM) : FitP ps := fun p hp => Fit.of (h p hp) hm
theorem szP_nil {n : Nat} : SzP n [] := fun _ h => nomatch h
theorem szP_cons {n : Nat} {p : Rat} {ps : List Rat} (h : Sz n p) (h2 : SzP n ps) : SzP n (p :: ps) := fun q hq => by
  rcases List.mem_cons.mp hq with rfl | hq
  · exact h
  · exact h2 q hq
theorem sz_0 (n : Nat) : Sz (n + 1) 0 := ⟨by unfold Bd; simp [Nat.two_pow_pos], by unfold Bd; simp⟩
theorem sz_1 (n : Nat) : Sz (n + 1) 1 := ⟨by unfold Bd; simp, by unfold Bd; simp⟩
theorem sz0 : Sz 1 0 := sz_0 0
theorem sz1 : Sz 1 1 := sz_1 0
theorem fit0 : Fit 0 := Fit.of sz0 (by decide)
theorem fit1 : Fit 1 := Fit.of sz1 (by decide)
theorem sz_at0 {n : Nat} {ps : List Rat} (h : SzP n ps) (k : Nat) : Sz (n + 1) (at0 ps k) := by
  by_cases hk : k < ps.length
  · rw [at0_lt hk]; exact (h _ (List.getElem_mem _)).mono (by omega)
  · rw [at0_ge (by omega)]; exact sz_0 n
theorem SzP.get {n : Nat} {ps : List Rat} (h : SzP n ps) {k : Nat} (hk : k < ps.length) : Sz n ps[k] := h _ (List.getElem_mem hk)
theorem FitP.at0 {ps : List Rat} (h : FitP ps) (k : Nat) : Fit (at0 ps k) := by
  by_cases hk : k < ps.length
  · rw [at0_lt hk]; exact h _ (List.getElem_mem _)
  · rw [at0_ge (by omega)]; exact fit0
theorem sz_int {i : Int} {n : Nat} (h : i.natAbs < 2 ^ n) (h0 : 0 < n) : Sz n (i : Rat) := ⟨by simpa [Bd] using h, by unfold Bd; simp; omega⟩
theorem fr_nat (k : Nat) : fr (k : Rat) = .tup [.int k, .int 1] := by
  have := fr_int (k : Int)
  exact this
theorem sz_nat {k n : Nat} (h : k < 2 ^ n) (h0 : 0 < n) : Sz n (k : Rat) := by
  have e : ((k : Nat) : Rat) = ((k : Int) : Rat) := rfl
  rw [e]
  exact ⟨by simpa [Bd] using h, by unfold Bd; simp; omega⟩
/-! ## frames for polynomials -/
@[simp] theorem ltR_pol {L : Lh} {ps : List Rat} : ltR (pol ps) L = .val ⟨ps.map fr, fun _ => True⟩ L := rfl
@[simp] theorem revR_pol {L : Lh} {ps : List Rat} : revR (pol ps) L = .val ⟨(ps.map fr).reverse, fun _ => True⟩ L := rfl
@[simp] theorem enR_pol {L : Lh} {ps : List Rat} : enR (pol ps) L = .val ⟨enumD (ps.map fr), fun _ => True⟩ L := rfl
@[simp] theorem fLen_pol {L : Lh} {ps : List Rat} : fLen [pol ps] L = .val (.int ps.length) L := by simp
@[simp] theorem enumD_len' (xs : List D) : (enumD xs).length = xs.length := enumD_len xs
@[simp] theorem enumD_get {xs : List D} {i : Nat} (h : i < (enumD xs).length) : (enumD xs)[i] = .tup [.int (i : Nat), xs[i]'(by simpa using h)] := by simp [enumD]
@[simp] theorem zipD_len' (xs ys : List D) : (zipD xs ys).length = min xs.length ys.length := zipD_len xs ys
@[simp] theorem zipD_get {xs ys : List D} {i : Nat} (h : i < (zipD xs ys).length) : (zipD xs ys)[i] = .tup [xs[i]'(by simp at h; omega), ys[i]'(by simp at h; omega)] := by simp [zipD]
@[simp] theorem rngD_len (i : Int) (n : Nat) : (rngD i n).length = n := by simp [rngD]
@[simp] theorem rngD_get {i : Int} {n k : Nat} (h : k < (rngD i n).length) : (rngD i n)[k] = .int (i + k) := by simp [rngD]
theorem trunc_pol {L G' : Lh} {ps : List Rat} : trunc L (pol ps) (L ++ G') = .val (pol ps) L := trunc_flat (closed_pol _ _)
theorem ixN_nat {n i : Nat} (h : i < n) : ixN n (i : Int) = some i := by
  unfold ixN
  have e1 : ¬ ((i : Int) < 0) := by omega
  simp [e1, h]
theorem at_frs {ps : List Rat} {k : Nat} (h : k < ps.length) : L2.atI (ps.map fr) (k : Int) = some (fr (at0 ps k)) := by rw [frs_at h, at0_lt h]
/-- an item of a list, by a number that is a Nat -/
theorem fIx_loc {L : Lh} {n k : Nat} {i : Int} {xs : List D} {d : D} (h : L[n]? = some (.lst xs)) (hi : i = (k : Int)) (hd : xs[k]? = some d) : fIx (.loc n) (.int i) L = .val d L := by
  subst hi
  have hat : L2.atI xs (k : Int) = some d := L2.atI_nat hd
  simp only [fIx, itemsT, items_loc h, hat]
theorem fIx_tup {L : Lh} {k : Nat} {i : Int} {xs : List D} {d : D} (hi : i = (k : Int)) (hd : xs[k]? = some d) : fIx (.tup xs) (.int i) L = .val d L := by
  subst hi
  have hat : L2.atI xs (k : Int) = some d := L2.atI_nat hd
  simp only [fIx, itemsT, hat]
theorem fIx_pol {L : Lh} {k : Nat} {i : Int} {ps : List Rat} (hi : i = (k : Int)) (hk : k < ps.length) : fIx (pol ps) (.int i) L = .val (fr (at0 ps k)) L :=
  fIx_tup hi (by rw [at0_lt hk]; simp [hk])
theorem fIx_frs {L : Lh} {n k : Nat} {i : Int} {ps : List Rat} (h : L[n]? = some (.lst (ps.map fr))) (hi : i = (k : Int)) (hk : k < ps.length) : fIx (.loc n) (.int i) L = .val (fr (at0 ps k)) L :=
  fIx_loc h hi (by rw [at0_lt hk]; simp [hk])
@[simp] theorem fIx_fr0 {L : Lh} {q : Rat} : fIx (fr q) (.int 0) L = .val (.int q.num) L := by simp [fIx]
@[simp] theorem fIx_fr1 {L : Lh} {q : Rat} : fIx (fr q) (.int 1) L = .val (.int q.den) L := by simp [fIx]
@[simp] theorem items_app {X : Lh} {m : Nat} {xs : List D} (h : m = X.length) : items (.loc m) (X ++ [.lst xs]) = some xs := by subst h; exact items_loc (by simp)
/-- a whole number as a fraction -/
def irat (i : Int) : Rat := (i : Rat)
theorem fr_irat (i : Int) : D.tup [.int i, .int 1] = fr (irat i) := (fr_int i).symm
theorem map_frs {α : Type} (l : List α) (g : α → D) (f : α → Rat) (x : D → D) (h : ∀ a ∈ l, x (g a) = fr (f a)) : (l.map g).map x = (l.map f).map fr := by
  rw [List.map_map, List.map_map]
  exact List.map_congr_left h
theorem set_last {L : Lh} {c d : Cell} : (L ++ [c]).set L.length d = L ++ [d] := set_append_last
theorem get_last {L : Lh} {c : Cell} : (L ++ [c])[L.length]? = some c := by simp
/-- a comprehension that only reads -/
theorem wp_lcMap {chk : Lh → Prop} {g : Tg3} {e : E3} {Γ0 : G3} {xs : List D} {Q : D → Lh → Prop} {E : Str → Lh → Prop} {L : Lh} (f : Nat → D) (hl : xs.length ≤ 100000) (hc : ∀ acc, chk (L ++ [.lst acc]))
    (step : ∀ i (h : i < xs.length) acc, wpS (g xs[i] Γ0 (L ++ [.lst acc])) ⟨fun Γ1 L1 => wpR (e Γ1 L1) (fun y L2 => y = f i ∧ L2 = L ++ [.lst acc]) noE, fun _ _ => False, fun _ _ => False, fun _ _ => False, fun _ _ _ => False⟩)
    (hn : Q (.loc L.length) (L ++ [.lst ((List.range xs.length).map f)])) : wpR (lcL chk g tTrue e Γ0 L.length xs (L ++ [.lst []])) Q E := by
  refine wp_lc (fun i ys L' => ys = (List.range i).map f ∧ L' = L ++ [.lst ys]) ⟨by simp, rfl⟩ get_last (fun i ys L' hi hL h => by rw [h.2]; exact hc _) (fun i hi ys L' hL h => ?_) (fun ys L' hL h => ?_)
  · obtain ⟨h1, rfl⟩ := h
    have s := step i hi ys
    cases hg : g xs[i] Γ0 (L ++ [.lst ys]) with
    | nx Γ1 L1 =>
      rw [hg] at s
      have s : wpR (e Γ1 L1) (fun y L2 => y = f i ∧ L2 = L ++ [.lst ys]) noE := s
      simp only [wpS_nx, tTrue, wpR_val, if_true]
      refine s.mono (fun y L2 q => ?_) (fun _ _ q => q)
      obtain ⟨rfl, rfl⟩ := q
      refine ⟨get_last, by rw [h1]; simp; omega, ?_, ?_⟩
      · rw [h1, List.range_succ]; simp
      · rw [set_last]
    | exn c Γ1 L1 => rw [hg] at s; exact s.elim
    | ret _ _ => rw [hg] at s; exact s.elim
    | brk _ _ => rw [hg] at s; exact s.elim
    | ct _ _ => rw [hg] at s; exact s.elim
    | stuck => rw [hg] at s; exact s.elim
  · obtain ⟨h1, rfl⟩ := h
    rw [h1]; exact hn
/-! ## the functions of polynomials -/
theorem fn_part_at_eq' (L : Lh) (ps : List Rat) (k : Nat) {i : Int} (hi : i = (k : Int)) : fn_part_at [pol ps, .int i] L = .val (fr (at0 ps k)) L := by subst hi; exact fn_part_at_eq L ps k
theorem lean_loc {L : Lh} {ps : List Rat} {n : Nat} (h : L[n]? = some (.lst (ps.map fr))) : fn_lean [.loc n] L = .val (pol (trim ps)) L := fn_lean_eq (.lst h)
theorem fn_sum_of_eq {a b : List Rat} (L : Lh) (h1 : FitP a) (h2 : FitP b) (hl : a.length ≤ 1000) (hl2 : b.length ≤ 1000) : fn_sum_of [pol a, pol b] L = .val (pol (psum a b)) L := by
  apply wpR.eq
  unfold fn_sum_of d_sum_of
  refine wp_run rfl ?_
  have hmx : (if a.length < b.length then (b.length : Int) else (a.length : Int)) = ((max a.length b.length : Nat) : Int) := by split <;> omega
  have hm : max a.length b.length ≤ 1000000 := by omega
  simp [-List.map_map, hmx, hm]
  refine wp_lcMap (fun k => fr (at0 a k + at0 b k)) (by simp; omega) (fun _ => trivial) (fun i hi acc => ?_) ?_
  · simp [fn_part_at_eq, fn_plus_eq _ (h1.at0 i) (h2.at0 i)]
  · have ln := lean_loc (L := L ++ [.lst ((List.range (max a.length b.length)).map fun k => fr (at0 a k + at0 b k))]) (ps := (List.range (max a.length b.length)).map fun k => at0 a k + at0 b k) (n := L.length) (by simp)
    simp [ln, psum]
def pscale (a : List Rat) (g : Rat) : List Rat := trim (a.map (· * g))
theorem fn_times_all_eq {a : List Rat} {g : Rat} (L : Lh) (h1 : FitP a) (h2 : Fit g) (hl : a.length ≤ 1000) : fn_times_all [pol a, fr g] L = .val (pol (pscale a g)) L := by
  apply wpR.eq
  unfold fn_times_all d_times_all
  refine wp_run rfl ?_
  simp
  refine wp_lcMap (fun k => fr (at0 a k * g)) (by simp; omega) (fun _ => trivial) (fun i hi acc => ?_) ?_
  · have hi' : i < a.length := by simpa using hi
    have e := fn_times_eq (L ++ [.lst acc]) (h1.at0 i) h2
    rw [at0_lt hi'] at e
    simp [at0_lt hi', e]
  · have e2 : (List.range a.length).map (fun k => fr (at0 a k * g)) = (a.map (· * g)).map fr := by
      refine List.ext_getElem (by simp) fun i h1 h2 => ?_
      have hi' : i < a.length := by simpa using h1
      simp [at0_lt hi']
    have ln := lean_loc (L := L ++ [.lst ((a.map (· * g)).map fr)]) (ps := a.map (· * g)) (n := L.length) (by simp)
    simp [-List.map_map, e2, ln, pscale]
theorem ev_sz {n m k : Nat} {ps : List Rat} {x : Rat} (h1 : SzP n ps) (h2 : Sz m x) (hk : ps.length ≤ k) : Sz (k * (n + m + 2) + 1) (ev ps x) := by
  induction ps generalizing k with
  | nil => rw [ev_nil]; exact sz0.mono (by omega)
  | cons p ps ih =>
    obtain ⟨k, rfl⟩ : ∃ j, k = j + 1 := ⟨k - 1, by simp at hk; omega⟩
    have := ih (k := k) (fun q hq => h1 q (by simp [hq])) (by simpa using hk)
    rw [ev_cons, Nat.succ_mul]
    exact ((this.mul h2).add (h1 p (by simp))).mono (by omega)
theorem mul_le {a b c : Nat} (h : a ≤ b) : a * c ≤ b * c := Nat.mul_le_mul h (Nat.le_refl _)
theorem fn_worth_eq {n m : Nat} {ps : List Rat} {x : Rat} (L : Lh) (h1 : SzP n ps) (h2 : Sz m x) (hk : (ps.length + 1) * (n + m + 2) + 1 ≤ LIM) : fn_worth [pol ps, fr x] L = .val (fr (ev ps x)) L := by
  apply wpR.eq
  unfold fn_worth d_worth
  refine wp_run rfl ?_
  simp [k0]
  refine wp_forN (fun i Γ L' => L' = L ∧ ∃ v, Γ = [some (pol ps), some (fr x), some (fr (ev (ps.drop (ps.length - i)) x)), v]) ⟨rfl, _, by simp; rfl⟩ (fun _ _ _ _ _ => trivial) (fun i hi Γ L' h => ?_) (fun Γ L' h => ?_)
  · obtain ⟨rfl, v, rfl⟩ := h
    have hi' : i < ps.length := by simpa using hi
    have s1 : Sz (ps.length * (n + m + 2) + 1) (ev (ps.drop (ps.length - i)) x) := ev_sz (fun p hp => h1 p (List.mem_of_mem_drop hp)) h2 (by simp)
    have hp : Sz n (ps[ps.length - 1 - i]'(by omega)) := h1 _ (List.getElem_mem _)
    rw [Nat.succ_mul] at hk
    have e1 := fn_times_eq L' (Fit.of s1 (by omega)) (Fit.of h2 (by omega))
    have e2 := fn_plus_eq L' (Fit.of (s1.mul h2) (by omega)) (Fit.of hp (by omega))
    have e3 : ev (ps.drop (ps.length - (i + 1))) x = ev (ps.drop (ps.length - i)) x * x + ps[ps.length - 1 - i]'(by omega) := by
      have : ps.length - (i + 1) < ps.length := by omega
      have e : ps.length - (i + 1) = ps.length - 1 - i := by omega
      rw [List.drop_eq_getElem_cons this, ev_cons, show ps.length - (i + 1) + 1 = ps.length - i by omega]
      simp only [e]
    simp [e1, e2, e3]
  · obtain ⟨rfl, v, rfl⟩ := h
    simp
/-! ## products -/
def addAt (f : List Rat) (n : Nat) (v : Rat) : List Rat := f.set n (at0 f n + v)
@[simp] theorem addAt_len (f : List Rat) (n : Nat) (v : Rat) : (addAt f n v).length = f.length := by simp [addAt]
theorem at0_addAt (f : List Rat) {n : Nat} (v : Rat) (i : Nat) (h : n < f.length) : at0 (addAt f n v) i = if i = n then at0 f n + v else at0 f i := by
  by_cases e : i = n
  · subst e; rw [if_pos rfl]; unfold addAt; rw [at0_lt (by simpa using h)]; simp
  · rw [if_neg e]; unfold addAt at0; simp [List.getElem?_set, Ne.symm e]
def rowK (a b : List Rat) (j k : Nat) (f : List Rat) : List Rat := (List.range k).foldl (fun f k => addAt f (j + k) (at0 a j * at0 b k)) f
def rowsJ (a b : List Rat) (j : Nat) : List Rat := (List.range j).foldl (fun f j => rowK a b j b.length f) (List.replicate (a.length + b.length) 0)
def pmul (a b : List Rat) : List Rat := trim (rowsJ a b a.length)
theorem rowK_succ (a b : List Rat) (j k : Nat) (f : List Rat) : rowK a b j (k + 1) f = addAt (rowK a b j k f) (j + k) (at0 a j * at0 b k) := by
  unfold rowK; rw [List.range_succ, List.foldl_append]; rfl
@[simp] theorem rowK_zero (a b : List Rat) (j : Nat) (f : List Rat) : rowK a b j 0 f = f := rfl
theorem rowsJ_succ (a b : List Rat) (j : Nat) : rowsJ a b (j + 1) = rowK a b j b.length (rowsJ a b j) := by
  unfold rowsJ; rw [List.range_succ, List.foldl_append]; rfl
@[simp] theorem rowsJ_zero (a b : List Rat) : rowsJ a b 0 = List.replicate (a.length + b.length) 0 := rfl
@[simp] theorem rowK_len (a b : List Rat) (j k : Nat) (f : List Rat) : (rowK a b j k f).length = f.length := by
  induction k with
  | zero => rfl
  | succ k ih => rw [rowK_succ, addAt_len, ih]
@[simp] theorem rowsJ_len (a b : List Rat) (j : Nat) : (rowsJ a b j).length = a.length + b.length := by
  induction j with
  | zero => simp
  | succ j ih => rw [rowsJ_succ, rowK_len, ih]
theorem rowK_sz {B s : Nat} {a b f : List Rat} {j : Nat} (hf : j + b.length ≤ f.length) (h0 : ∀ i, Sz s (at0 f i)) (hv : ∀ k, Sz B (at0 a j * at0 b k)) : ∀ k, k ≤ b.length → ∀ i, Sz (if i < j + k then s + B + 1 else s) (at0 (rowK a b j k f) i)
  | 0, _, i => (h0 i).mono (by split <;> omega)
  | k + 1, hk, i => by
    have ih := rowK_sz hf h0 hv k (by omega)
    rw [rowK_succ, at0_addAt _ _ _ (by rw [rowK_len]; omega)]
    by_cases e : i = j + k
    · rw [if_pos e, if_pos (by omega)]
      have := (ih (j + k)).add (hv k)
      rw [if_neg (by omega)] at this
      exact this
    · rw [if_neg e]
      exact (ih i).mono (by split <;> split <;> omega)
theorem rowsJ_sz {B : Nat} {a b : List Rat} (hv : ∀ j k, Sz B (at0 a j * at0 b k)) : ∀ j, j ≤ a.length → ∀ i, Sz (j * (B + 1) + 1) (at0 (rowsJ a b j) i)
  | 0, _, i => by
    have : at0 (rowsJ a b 0) i = 0 := by
      by_cases h : i < (rowsJ a b 0).length
      · rw [at0_lt h]; simp
      · exact at0_ge (by omega)
    rw [this]; exact sz0.mono (by omega)
  | j + 1, h, i => by
    rw [rowsJ_succ]
    refine (rowK_sz (s := j * (B + 1) + 1) (B := B) (by simp; omega) (rowsJ_sz hv j (by omega)) (fun k => hv j k) b.length (Nat.le_refl _) i).mono ?_
    rw [Nat.succ_mul]; split <;> omega
theorem SzP.trim {n : Nat} {ps : List Rat} (h : SzP n ps) : SzP n (G.trim ps) := fun p hp => h p (mem_trim hp)
theorem SzP.of_at {n : Nat} {ps : List Rat} (h : ∀ i, Sz n (at0 ps i)) : SzP n ps := fun p hp => by
  obtain ⟨i, hi, rfl⟩ := List.mem_iff_getElem.mp hp
  rw [← at0_lt hi]; exact h i
theorem SzP.pmul {n m k : Nat} {a b : List Rat} (h1 : SzP n a) (h2 : SzP m b) (hk : a.length ≤ k) : SzP (k * (n + m + 3) + 1) (pmul a b) := by
  refine SzP.trim (SzP.of_at fun i => ?_)
  refine (rowsJ_sz (B := n + m + 2) (a := a) (b := b) (fun j k => ((sz_at0 h1 j).mul (sz_at0 h2 k)).mono (by omega)) a.length (Nat.le_refl _) i).mono ?_
  show a.length * (n + m + 3) + 1 ≤ _
  have := Nat.mul_le_mul hk (Nat.le_refl (n + m + 3))
  omega
theorem SzP.psum {n m : Nat} {a b : List Rat} (h1 : SzP n a) (h2 : SzP m b) : SzP (n + m + 3) (psum a b) := by
  refine SzP.trim fun p hp => ?_
  obtain ⟨k, _, rfl⟩ := List.mem_map.mp hp
  exact ((sz_at0 h1 k).add (sz_at0 h2 k)).mono (by omega)
theorem SzP.pscale {n m : Nat} {a : List Rat} {g : Rat} (h1 : SzP n a) (h2 : Sz m g) : SzP (n + m) (pscale a g) := by
  refine SzP.trim fun p hp => ?_
  obtain ⟨q, hq, rfl⟩ := List.mem_map.mp hp
  exact (h1 q hq).mul h2
theorem pmul_len (a b : List Rat) : (pmul a b).length ≤ a.length + b.length := by
  have := trim_len (rowsJ a b a.length)
  rw [rowsJ_len] at this; exact this
theorem repl_frs (n : Nat) : (List.replicate n [fr 0]).flatten = (List.replicate n (0 : Rat)).map fr := by
  induction n with
  | zero => rfl
  | succ n ih => rw [List.replicate_succ, List.flatten_cons, ih, List.replicate_succ]; rfl
theorem fMul_loc {L : Lh} {n k : Nat} {i : Int} {xs : List D} (h : L[n]? = some (.lst xs)) (hi : i = (k : Int)) (hk : k ≤ 1000) (hl : xs.length ≤ 100) : fMul (.loc n) (.int i) L = .val (.loc L.length) (L ++ [.lst (List.replicate k xs).flatten]) := by
  subst hi
  have : xs.length * (k : Int).toNat ≤ 100000 := by
    have := Nat.mul_le_mul hl hk
    simpa using this
  simp only [fMul, h]
  rw [if_pos ⟨by omega, by omega, this⟩]; simp
theorem fn_product_eq {n m : Nat} {a b : List Rat} (L : Lh) (h1 : SzP n a) (h2 : SzP m b) (hk : (a.length + 1) * (n + m + 3) + 2 ≤ LIM) (hla : a.length ≤ 100) (hlb : b.length ≤ 100) :
    fn_product [pol a, pol b] L = .val (pol (pmul a b)) L := by
  have hv : ∀ j k, Sz (n + m + 2) (at0 a j * at0 b k) := fun j k => ((sz_at0 h1 j).mul (sz_at0 h2 k)).mono (by omega)
  apply wpR.eq
  unfold fn_product d_product
  refine wp_run rfl ?_
  generalize hL0 : L ++ [Cell.lst [fr 0]] = L0
  have hg0 : L0[L.length]? = some (.lst [fr 0]) := by rw [← hL0]; simp
  simp [k0, -fMul, hL0]
  rw [fMul_loc (k := a.length + b.length) hg0 (by omega) (by omega) (by simp), repl_frs]
  simp [-List.map_replicate, -fAdd]
  refine wp_forN (fun j Γ L' => (∃ v3 v4 v5 v6, Γ = [some (pol a), some (pol b), some (.loc L0.length), v3, v4, v5, v6]) ∧ L' = L0 ++ [.lst ((rowsJ a b j).map fr)]) ⟨⟨_, _, _, _, rfl⟩, by simp⟩ (fun _ _ _ _ _ => trivial) (fun j hj Γ L' h => ?_) (fun Γ L' h => ?_)
  · obtain ⟨⟨v3, v4, v5, v6, rfl⟩, rfl⟩ := h
    have hj' : j < a.length := by simpa using hj
    simp [-fAdd, ← at0_lt hj']
    refine wp_forN (fun k Γ L' => (∃ v5 v6, Γ = [some (pol a), some (pol b), some (.loc L0.length), some (.int j), some (fr (at0 a j)), v5, v6]) ∧ L' = L0 ++ [.lst ((rowK a b j k (rowsJ a b j)).map fr)]) ⟨⟨_, _, rfl⟩, by simp⟩ (fun _ _ _ _ _ => trivial) (fun k hk' Γ L' h => ?_) (fun Γ L' h => ?_)
    · obtain ⟨⟨v5, v6, rfl⟩, rfl⟩ := h
      have hkb : k < b.length := by simpa using hk'
      have s1 : Sz (if j + k < j + k then j * (n + m + 3) + 1 + (n + m + 2) + 1 else j * (n + m + 3) + 1) _ := rowK_sz (B := n + m + 2) (a := a) (b := b) (j := j) (f := rowsJ a b j) (by simp; omega) (rowsJ_sz hv j (by omega)) (fun k => hv j k) k (by omega) (j + k)
      have hm := Nat.mul_le_mul (show j ≤ a.length by omega) (Nat.le_refl (n + m + 3))
      rw [Nat.succ_mul] at hk
      have z1 := fn_times_eq (L0 ++ [.lst ((rowK a b j k (rowsJ a b j)).map fr)]) (Fit.of (sz_at0 h1 j) (by omega)) (Fit.of (sz_at0 h2 k) (by omega))
      have z2 := fn_plus_eq (L0 ++ [.lst ((rowK a b j k (rowsJ a b j)).map fr)]) (Fit.of s1 (by split <;> omega)) (Fit.of (hv j k) (by omega))
      have z3 := fIx_frs (L := L0 ++ [.lst ((rowK a b j k (rowsJ a b j)).map fr)]) (n := L0.length) (i := (j : Int) + k) (k := j + k) (ps := rowK a b j k (rowsJ a b j)) (by simp) (by omega) (by simp; omega)
      have z4 : ∀ d Γ, setR L0.length ((j : Int) + k) d Γ (L0 ++ [.lst ((rowK a b j k (rowsJ a b j)).map fr)]) = _ := fun d Γ => setR_eq (xs := (rowK a b j k (rowsJ a b j)).map fr) (j := j + k) (by simp) (by simp; exact ixN_nat (n := a.length + b.length) (i := j + k) (by omega))
      simp only [← at0_lt hkb, List.getElem_map, enumD_get, fAdd] at *
      simp [← at0_lt hkb, z3, z1, z2, z4, rowK_succ, addAt, -fIx]
    · obtain ⟨⟨v5, v6, rfl⟩, rfl⟩ := h
      simp [rowsJ_succ]
  · obtain ⟨⟨v3, v4, v5, v6, rfl⟩, rfl⟩ := h
    have ln := lean_loc (L := L0 ++ [.lst ((rowsJ a b a.length).map fr)]) (ps := rowsJ a b a.length) (n := L0.length) (by simp)
    simp [ln]
    rw [← hL0, List.append_assoc]
    simp [pmul]
def pslopeR (a : List Rat) : List Rat := (List.range (a.length - 1)).map fun k => at0 a (k + 1) * ((k + 1 : Nat) : Rat)
def pslope (a : List Rat) : List Rat := trim (pslopeR a)
theorem SzP.pslope {n : Nat} {a : List Rat} (h : SzP n a) (hl : a.length ≤ 1000) : SzP (n + 11) (pslope a) := by
  refine SzP.trim fun p hp => ?_
  obtain ⟨k, hk, rfl⟩ := List.mem_map.mp hp
  exact ((sz_at0 h (k + 1)).mul (sz_nat (n := 10) (by simp at hk; omega) (by omega))).mono (by omega)
theorem pslope_len (a : List Rat) : (pslope a).length ≤ a.length - 1 := by
  have h := trim_len (pslopeR a)
  have e : (pslopeR a).length = a.length - 1 := by simp [pslopeR]
  rw [e] at h; exact h
theorem sliceD_from {L : Lh} {n : Nat} {xs : List D} (k : Nat) (h : L[n]? = some (.lst xs)) : sliceD (.loc n) (some (k : Int)) none L = .val (.loc L.length) (L ++ [.lst (xs.drop k)]) := by
  rw [sliceD_loc h, cutD_drop]
theorem fn_slope_eq {a : List Rat} (L : Lh) (h1 : FitP a) (hl : a.length ≤ 1000) : fn_slope [pol a] L = .val (pol (pslope a)) L := by
  apply wpR.eq
  unfold fn_slope d_slope
  refine wp_run rfl ?_
  simp
  refine wp_lcMap (fun k => fr (at0 a k * ((k : Nat) : Rat))) (by simp; omega) (fun _ => trivial) (fun i hi acc => ?_) ?_
  · have hi' : i < a.length := by simpa using hi
    have sn : Fit ((i : Nat) : Rat) := Fit.of (sz_nat (n := 10) (by omega) (by omega)) (by decide)
    have z := fn_times_eq (L ++ [.lst acc]) (h1.at0 i) sn
    rw [fr_nat] at z
    simp [← at0_lt hi', z]
  · have hs := sliceD_from (L := L ++ [.lst ((List.range a.length).map fun k => fr (at0 a k * ((k : Nat) : Rat)))]) (n := L.length) 1 get_last
    have hd : ((List.range a.length).map fun k => fr (at0 a k * ((k : Nat) : Rat))).drop 1 = (pslopeR a).map fr := by
      refine List.ext_getElem (by simp [pslopeR]) fun i h1 h2 => ?_
      simp [pslopeR, Nat.add_comm]
    rw [hd] at hs
    have hs' : sliceD (.loc L.length) (some 1) none (L ++ [.lst ((List.range a.length).map fun k => fr (at0 a k * ((k : Nat) : Rat)))]) = _ := hs
    simp [-sliceD, hs']
    rw [lean_loc (ps := pslopeR a) (by simp)]
    simp [pslope]
/-! ## what sums and products are worth -/
/-- the first i parts of a worth -/
def evp (ps : List Rat) (x : Rat) : Nat → Rat
  | 0 => 0
  | i + 1 => evp ps x i + at0 ps i * x ^ i
theorem evp_cons (p : Rat) (ps : List Rat) (x : Rat) : ∀ i, evp (p :: ps) x (i + 1) = evp ps x i * x + p
  | 0 => by simp [evp, at0]
  | i + 1 => by
    rw [evp, evp_cons p ps x i, evp]
    have : at0 (p :: ps) (i + 1) = at0 ps i := rfl
    rw [this, Rat.pow_succ]; grind
theorem evp_len : ∀ (ps : List Rat) (x : Rat), evp ps x ps.length = ev ps x
  | [], _ => rfl
  | p :: ps, x => by rw [List.length_cons, evp_cons, evp_len ps x, ev_cons]
theorem evp_ge (ps : List Rat) (x : Rat) : ∀ k, evp ps x (ps.length + k) = ev ps x
  | 0 => evp_len ps x
  | k + 1 => by
    rw [← Nat.add_assoc, evp, evp_ge ps x k, at0_ge (by omega)]; grind
theorem evp_ge' {ps : List Rat} {x : Rat} {N : Nat} (h : ps.length ≤ N) : evp ps x N = ev ps x := by
  have := evp_ge ps x (N - ps.length)
  rwa [show ps.length + (N - ps.length) = N by omega] at this
theorem evp_congr {a b : List Rat} {x : Rat} : ∀ {N : Nat}, (∀ k, k < N → at0 a k = at0 b k) → evp a x N = evp b x N
  | 0, _ => rfl
  | N + 1, h => by rw [evp, evp, evp_congr fun k hk => h k (by omega), h N (by omega)]
theorem at0_map {f : Nat → Rat} {N k : Nat} (h : k < N) : at0 ((List.range N).map f) k = f k := by
  rw [at0_lt (by simpa using h)]; simp
theorem evp_add {a b c : List Rat} {x : Rat} : ∀ {N : Nat}, (∀ k, k < N → at0 c k = at0 a k + at0 b k) → evp c x N = evp a x N + evp b x N
  | 0, _ => by rw [evp, evp, evp]; grind
  | N + 1, h => by rw [evp, evp, evp, evp_add fun k hk => h k (by omega), h N (by omega)]; grind
theorem ev_psum (a b : List Rat) (x : Rat) : ev (psum a b) x = ev a x + ev b x := by
  unfold psum
  rw [ev_trim, ← evp_len, List.length_map, List.length_range, evp_add (a := a) (b := b) (fun k hk => at0_map hk), evp_ge' (by omega), evp_ge' (by omega)]
theorem evp_addAt {f : List Rat} {n : Nat} {v x : Rat} (hn : n < f.length) : ∀ {N : Nat}, evp (addAt f n v) x N = evp f x N + (if n < N then v * x ^ n else 0)
  | 0 => by rw [evp, evp, if_neg (by omega)]; grind
  | N + 1 => by
    rw [evp, evp, evp_addAt hn, at0_addAt _ _ _ hn]
    by_cases h1 : N = n
    · subst h1
      rw [if_pos rfl, if_neg (by omega), if_pos (by omega)]; grind
    · rw [if_neg h1]
      by_cases h2 : n < N
      · rw [if_pos h2, if_pos (by omega)]; grind
      · rw [if_neg h2, if_neg (by omega)]; grind
theorem rpow_add (x : Rat) (j : Nat) : ∀ k, x ^ (j + k) = x ^ j * x ^ k
  | 0 => by rw [Nat.add_zero, Rat.pow_zero]; grind
  | k + 1 => by rw [← Nat.add_assoc, Rat.pow_succ, Rat.pow_succ, rpow_add x j k]; grind
theorem evp_rowK {a b f : List Rat} {j N : Nat} {x : Rat} (hf : j + b.length ≤ f.length) (hN : f.length ≤ N) : ∀ k, k ≤ b.length → evp (rowK a b j k f) x N = evp f x N + at0 a j * x ^ j * evp b x k
  | 0, _ => by rw [rowK_zero, evp]; grind
  | k + 1, hk => by
    rw [rowK_succ, evp_addAt (by rw [rowK_len]; omega), evp_rowK hf hN k (by omega), if_pos (by omega), evp, rpow_add]; grind
theorem evp_zero (n : Nat) (x : Rat) : ∀ N, evp (List.replicate n 0) x N = 0
  | 0 => rfl
  | N + 1 => by
    have : at0 (List.replicate n (0 : Rat)) N = 0 := by
      by_cases h : N < n
      · rw [at0_lt (by simpa using h)]; simp
      · exact at0_ge (by simp; omega)
    rw [evp, evp_zero n x N, this]; grind
theorem evp_rowsJ {a b : List Rat} {x : Rat} : ∀ j, j ≤ a.length → evp (rowsJ a b j) x (a.length + b.length) = evp a x j * ev b x
  | 0, _ => by rw [rowsJ_zero, evp_zero]; simp [evp]
  | j + 1, h => by
    rw [rowsJ_succ, evp_rowK (by simp; omega) (by simp) b.length (Nat.le_refl _), evp_rowsJ j (by omega), evp_len, evp]; grind
theorem ev_pmul (a b : List Rat) (x : Rat) : ev (pmul a b) x = ev a x * ev b x := by
  unfold pmul
  rw [ev_trim, ← evp_len, rowsJ_len, evp_rowsJ a.length (Nat.le_refl _), evp_len]
theorem evp_scale {a c : List Rat} {g x : Rat} : ∀ {N : Nat}, (∀ k, k < N → at0 c k = at0 a k * g) → evp c x N = evp a x N * g
  | 0, _ => by simp [evp]
  | N + 1, h => by rw [evp, evp, evp_scale fun k hk => h k (by omega), h N (by omega)]; grind
theorem at0_mapR (f : Rat → Rat) (h0 : f 0 = 0) (a : List Rat) (k : Nat) : at0 (a.map f) k = f (at0 a k) := by
  by_cases h : k < a.length
  · rw [at0_lt (by simpa using h), at0_lt h]; simp
  · rw [at0_ge (by simp; omega), at0_ge (by omega), h0]
theorem ev_pscale (a : List Rat) (g x : Rat) : ev (pscale a g) x = ev a x * g := by
  unfold pscale
  rw [ev_trim, ← evp_len, List.length_map, evp_scale (a := a) (g := g) (fun k _ => at0_mapR _ (by simp) a k), evp_len]
/-! ## roots -/
def quot : List Rat → Rat → List Rat
  | [], _ => []
  | [_], _ => []
  | _ :: q :: r, a => ev (q :: r) a :: quot (q :: r) a
theorem quot_len : ∀ (ps : List Rat) (a : Rat), (quot ps a).length = ps.length - 1
  | [], _ => rfl
  | [_], _ => rfl
  | _ :: q :: r, a => by rw [quot, List.length_cons, quot_len (q :: r) a]; simp
theorem ev_quot : ∀ (ps : List Rat) (a x : Rat), ev ps x = (x - a) * ev (quot ps a) x + ev ps a
  | [], _, _ => by rw [quot, ev_nil, ev_nil]; grind
  | [p], a, x => by rw [quot, ev_nil, ev_cons, ev_cons, ev_nil, ev_nil]; grind
  | p :: q :: r, a, x => by
    have ih := ev_quot (q :: r) a x
    rw [quot, ev_cons p (q :: r) x, ev_cons p (q :: r) a, ev_cons (ev (q :: r) a), ih]; grind
theorem ev_roots : ∀ (xs : List Rat) (ps : List Rat), xs.Nodup → ps.length ≤ xs.length → (∀ x ∈ xs, ev ps x = 0) → ∀ x, ev ps x = 0
  | [], ps, _, hl, _, x => by
    obtain rfl : ps = [] := List.eq_nil_of_length_eq_zero (by simpa using hl)
    rfl
  | a :: xs, ps, hn, hl, h, x => by
    have ha := h a (by simp)
    rw [List.nodup_cons] at hn
    have ih := ev_roots xs (quot ps a) hn.2 (by rw [quot_len]; simp at hl; omega) (fun y hy => by
      have h1 := h y (by simp [hy])
      rw [ev_quot ps a y, ha] at h1
      have h2 : (y - a) * ev (quot ps a) y = 0 := by grind
      rcases Rat.mul_eq_zero.mp h2 with h2 | h2
      · exact absurd (show y = a by grind) (fun z => hn.1 (z ▸ hy))
      · exact h2)
    rw [ev_quot ps a x, ha, ih x]; grind
def nats (n : Nat) : List Rat := (List.range n).map fun k => ((k + 1 : Nat) : Rat)
theorem natR_inj {a b : Nat} (h : (a : Rat) = (b : Rat)) : a = b := by
  have : ((a : Int) : Rat) = ((b : Int) : Rat) := h
  have := Rat.intCast_inj.mp this
  omega
theorem nats_nodup (n : Nat) : (nats n).Nodup := by
  unfold nats
  refine List.Pairwise.map _ (fun a b hab z => hab ?_) List.nodup_range
  have := natR_inj z; omega
theorem ev_zero : ∀ (ps : List Rat), (∀ x, ev ps x = 0) → ∀ p ∈ ps, p = 0
  | [], _, _, h => nomatch h
  | p :: ps, h, q, hq => by
    have h0 := h 0
    rw [ev_cons] at h0
    have hp : p = 0 := by grind
    have hz : ∀ x, x ≠ 0 → ev ps x = 0 := fun x hx => by
      have := h x
      rw [ev_cons, hp] at this
      have h2 : ev ps x * x = 0 := by grind
      rcases Rat.mul_eq_zero.mp h2 with h2 | h2
      · exact h2
      · exact absurd h2 hx
    have all := ev_roots (nats ps.length) ps (nats_nodup _) (by simp [nats]) (fun x hx => hz x (by
      obtain ⟨k, _, rfl⟩ := List.mem_map.mp hx
      exact natR_ne (by omega)))
    rcases List.mem_cons.mp hq with rfl | hq
    · exact hp
    · exact ev_zero ps all q hq
theorem at0_cons_zero (p : Rat) (ps : List Rat) : at0 (p :: ps) 0 = p := rfl
theorem at0_cons_succ (p : Rat) (ps : List Rat) (k : Nat) : at0 (p :: ps) (k + 1) = at0 ps k := rfl
theorem at0_nil (k : Nat) : at0 [] k = 0 := rfl
theorem mem_at0 {ps : List Rat} {p : Rat} (h : p ∈ ps) : ∃ k, p = at0 ps k := by
  obtain ⟨k, hk, e⟩ := List.mem_iff_getElem.mp h
  exact ⟨k, by rw [at0_lt hk, e]⟩
theorem trim_ext : ∀ (ps qs : List Rat), (∀ k, at0 ps k = at0 qs k) → trim ps = trim qs
  | [], qs, h => by
    rw [trim_zero (ps := qs) fun p hp => by
      obtain ⟨k, rfl⟩ := mem_at0 hp
      rw [← h]; rfl]
    rfl
  | p :: ps, [], h => by
    rw [trim_zero (ps := p :: ps) fun q hq => by
      obtain ⟨k, rfl⟩ := mem_at0 hq
      rw [h]; rfl]
    rfl
  | p :: ps, q :: qs, h => by
    have h0 : p = q := h 0
    have ih := trim_ext ps qs fun k => h (k + 1)
    rw [trim, trim, ih, h0]
theorem ev_ext {ps qs : List Rat} (h : ∀ x, ev ps x = ev qs x) : trim ps = trim qs := by
  let N := max ps.length qs.length
  let ds : List Rat := (List.range N).map fun k => at0 ps k + at0 (qs.map (- ·)) k
  have hd : ∀ x, ev ds x = 0 := fun x => by
    have h1 : (qs.map (- ·)).length = qs.length := by simp
    have h2 : evp (qs.map (- ·)) x N = evp qs x N * (-1) := evp_scale fun k _ => by rw [at0_mapR _ (by simp)]; grind
    rw [← evp_len, show ds.length = N by simp [ds], evp_add (a := ps) (b := qs.map (- ·)) (fun k hk => at0_map hk), h2, evp_ge' (by omega), evp_ge' (by omega), h x]; grind
  have hz := ev_zero ds hd
  refine trim_ext ps qs fun k => ?_
  by_cases hk : k < N
  · have h1 := hz (at0 ds k) (by rw [at0_lt (by simp [ds]; exact hk)]; exact List.getElem_mem _)
    rw [show at0 ds k = at0 ps k + at0 (qs.map (- ·)) k from at0_map hk, at0_mapR _ (by simp)] at h1
    grind
  · rw [at0_ge (by omega), at0_ge (by omega)]
/-- .. enough to know it at so many places -/
theorem ev_ext_at {ps qs xs : List Rat} (hn : xs.Nodup) (h1 : ps.length ≤ xs.length) (h2 : qs.length ≤ xs.length) (h : ∀ x ∈ xs, ev ps x = ev qs x) : trim ps = trim qs := by
  refine ev_ext fun x => ?_
  let N := max ps.length qs.length
  let ds : List Rat := (List.range N).map fun k => at0 ps k + at0 (qs.map (- ·)) k
  have hd : ∀ x, ev ds x = ev ps x - ev qs x := fun x => by
    have h1 : (qs.map (- ·)).length = qs.length := by simp
    have h2 : evp (qs.map (- ·)) x N = evp qs x N * (-1) := evp_scale fun k _ => by rw [at0_mapR _ (by simp)]; grind
    rw [← evp_len, show ds.length = N by simp [ds], evp_add (a := ps) (b := qs.map (- ·)) (fun k hk => at0_map hk), h2, evp_ge' (by omega), evp_ge' (by omega)]; grind
  have := ev_roots xs ds hn (by simp [ds, N]; omega) (fun y hy => by rw [hd, h y hy]; grind) x
  rw [hd] at this
  grind
/-! ## cells that grow: only the pot of the old ones may change -/
structure Grow (n : Nat) (L L' : Lh) : Prop where
  le : L.length ≤ L'.length
  at_ : ∀ m, m < L.length → m ≠ n → L'[m]? = L[m]?
theorem Grow.refl (n : Nat) (L : Lh) : Grow n L L := ⟨Nat.le_refl _, fun _ _ _ => rfl⟩
theorem Grow.trans {n : Nat} {L L1 L2 : Lh} (a : Grow n L L1) (b : Grow n L1 L2) : Grow n L L2 := ⟨Nat.le_trans a.le b.le, fun m h h2 => (b.at_ m (Nat.lt_of_lt_of_le h a.le) h2).trans (a.at_ m h h2)⟩
theorem But.grow {n : Nat} {L L1 : Lh} (a : But n L L1) : Grow n L L1 := ⟨Nat.le_of_eq a.len.symm, fun m _ h => a.at_ m h⟩
theorem Grow.app {n : Nat} {L X : Lh} : Grow n L (L ++ X) := ⟨by simp, fun m h _ => List.getElem?_append_left h⟩
theorem Grow.set {n m : Nat} {L L1 : Lh} {c : Cell} (a : Grow n L L1) (h : L.length ≤ m) : Grow n L (L1.set m c) := ⟨by simpa using a.le, fun k hk h2 => by
  rw [List.getElem?_set_ne (by omega)]; exact a.at_ k hk h2⟩
theorem Grow.keep {n m : Nat} {L L' : Lh} {c : Cell} (b : Grow n L L') (h : L[m]? = some c) (hm : m ≠ n) : L'[m]? = some c := by
  rw [b.at_ m (List.getElem?_eq_some_iff.mp h).1 hm]; exact h
theorem lt_of_get {L : Lh} {m : Nat} {c : Cell} (h : L[m]? = some c) : m < L.length := (List.getElem?_eq_some_iff.mp h).1
theorem PotAt.lt {n : Nat} {L : Lh} (h : PotAt L n) : n < L.length := let ⟨_, _, h, _⟩ := h; (List.getElem?_eq_some_iff.mp h).1
theorem PotAt.app {n : Nat} {L X : Lh} (h : PotAt L n) : PotAt (L ++ X) n := let ⟨p, q, h1, h2⟩ := h; ⟨p, q, by rw [List.getElem?_append_left (List.getElem?_eq_some_iff.mp h1).1]; exact h1, h2⟩
theorem PotAt.set {n m : Nat} {L : Lh} {c : Cell} (h : PotAt L n) (hm : m ≠ n) : PotAt (L.set m c) n := let ⟨p, q, h1, h2⟩ := h; ⟨p, q, by rw [List.getElem?_set_ne hm]; exact h1, h2⟩
theorem get_app {L X : Lh} {m : Nat} {c : Cell} (h : L[m]? = some c) : (L ++ X)[m]? = some c := by
  rw [List.getElem?_append_left (lt_of_get h)]; exact h
/-- an answer without lists of its own, cells changed -/
theorem wp_truncG {n : Nat} {L L' : Lh} {d : D} {Q : D → Lh → Prop} {E : Str → Lh → Prop} (hd : closed L.length d = true) (g : Grow n L L') (p : PotAt L' n) (hn : n < L.length) (h : ∀ L'', Grow n L L'' → PotAt L'' n → Q d L'') : wpR (trunc L d L') Q E := by
  refine wp_trunc hd (fun e => h L (Grow.refl _ _) ?_) (h L' g p)
  obtain ⟨a, b, h1, h2⟩ := p
  refine ⟨a, b, ?_, h2⟩
  rw [← e, List.getElem?_take, if_pos hn]; exact h1
theorem wp_truncGL {n m : Nat} {L L' : Lh} {xs : List D} {Q : D → Lh → Prop} {E : Str → Lh → Prop} (hm : L.length ≤ m) (hx : L'[m]? = some (.lst xs)) (hc : closeds L.length xs = true) (g : Grow n L L') (p : PotAt L' n) (hn : n < L.length)
    (h : ∀ m' L'', L.length ≤ m' → L''[m']? = some (.lst xs) → Grow n L L'' → PotAt L'' n → Q (.loc m') L'') : wpR (trunc L (.loc m) L') Q E := by
  refine wp_truncL hm hx hc (fun e => h _ _ (Nat.le_refl _) get_last Grow.app (PotAt.app ?_)) (h m L' hm hx g p)
  obtain ⟨a, b, h1, h2⟩ := p
  refine ⟨a, b, ?_, h2⟩
  rw [← e, List.getElem?_take, if_pos hn]; exact h1
/-- a comprehension that draws; P i y: what the answer of turn i is -/
theorem wp_lcDraw {chk : Lh → Prop} {P : Nat → D → Prop} {g : Tg3} {e : E3} {Γ0 : G3} {n : Nat} {xs : List D} {Q : D → Lh → Prop} {E : Str → Lh → Prop} {L : Lh} (hp : PotAt L n) (hl : xs.length ≤ 100000) (hc : ∀ L', Grow n L L' → chk L')
    (step : ∀ i (h : i < xs.length) ys L1, ys.length = i → (∀ k (h : k < ys.length), P k ys[k]) → L.length < L1.length → L1[L.length]? = some (.lst ys) → Grow n L L1 → PotAt L1 n →
      wpS (g xs[i] Γ0 L1) ⟨fun Γ1 L1' => wpR (e Γ1 L1') (fun y L2 => P i y ∧ Grow n L1 L2 ∧ PotAt L2 n) noE, fun _ _ => False, fun _ _ => False, fun _ _ => False, fun _ _ _ => False⟩)
    (hn : ∀ ys L', ys.length = xs.length → (∀ k (h : k < ys.length), P k ys[k]) → L'[L.length]? = some (.lst ys) → Grow n L L' → PotAt L' n → Q (.loc L.length) L') : wpR (lcL chk g tTrue e Γ0 L.length xs (L ++ [.lst []])) Q E := by
  have hne : L.length ≠ n := by have := hp.lt; omega
  refine wp_lc (fun i ys L' => ys.length = i ∧ (∀ k (h : k < ys.length), P k ys[k]) ∧ Grow n L L' ∧ PotAt L' n) ⟨rfl, fun k h => absurd h (by simp), Grow.app, hp.app⟩ get_last (fun _ _ L' _ _ h => hc L' h.2.2.1) (fun i hi ys L1 hL h => ?_) (fun ys L' hL h => hn ys L' h.1 h.2.1 hL h.2.2.1 h.2.2.2)
  obtain ⟨h1, h2, h3, h4⟩ := h
  have s := step i hi ys L1 h1 h2 (lt_of_get hL) hL h3 h4
  cases hg : g xs[i] Γ0 L1 with
  | nx Γ1 L1' =>
    rw [hg] at s
    simp only [wpS_nx] at s
    simp only [wpS_nx, tTrue, wpR_val, if_true]
    refine s.mono (fun y L2 q => ?_) (fun _ _ q => q)
    obtain ⟨q1, q2, q3⟩ := q
    refine ⟨q2.keep hL hne, by omega, by simp [h1], fun k hk => ?_, (h3.trans q2).set (Nat.le_refl _), q3.set hne⟩
    by_cases e : k < ys.length
    · rw [List.getElem_append_left e]; exact h2 k e
    · have e2 : k = ys.length := by simp at hk; omega
      have e3 : (ys ++ [y])[k] = y := by simp [e2]
      rw [e3, e2, h1]; exact q1
  | exn c Γ1 L1 => rw [hg] at s; exact s.elim
  | ret _ _ => rw [hg] at s; exact s.elim
  | brk _ _ => rw [hg] at s; exact s.elim
  | ct _ _ => rw [hg] at s; exact s.elim
  | stuck => rw [hg] at s; exact s.elim
theorem frs_of {Q : Rat → Prop} : ∀ {ys : List D}, (∀ k (h : k < ys.length), ∃ q, ys[k] = fr q ∧ Q q) → ∃ ps : List Rat, ys = ps.map fr ∧ ∀ p ∈ ps, Q p
  | [], _ => ⟨[], rfl, fun _ h => nomatch h⟩
  | y :: ys, h => by
    obtain ⟨q, hy, hq⟩ := h 0 (by simp)
    obtain ⟨ps, rfl, hp⟩ := frs_of (ys := ys) fun k hk => h (k + 1) (by simpa using hk)
    refine ⟨q :: ps, by simpa using hy, ?_⟩
    simp only [List.mem_cons]
    rintro p (rfl | h)
    · exact hq
    · exact hp p h
theorem ixN_m1 (n : Nat) : L2.ixN (n + 1) (-1) = some n := by
  unfold L2.ixN
  simp
  omega
@[simp] theorem shaped_nil : SeqAt.shaped (.list []) = true := (rfl)
theorem atI_m1 {α : Type} (xs : List α) (d : α) : L2.atI (xs ++ [d]) (-1) = some d := by
  have h : L2.ixN (xs ++ [d]).length (-1) = some xs.length := by
    have h2 : (xs ++ [d]).length = xs.length + 1 := by simp
    rw [h2]; exact ixN_m1 _
  unfold L2.atI
  rw [h]; simp
theorem num_zero (q : Rat) : (q.num = 0) = (q = 0) := propext Rat.num_eq_zero
theorem take_snoc {ps : List Rat} {m : Nat} (h : m < ps.length) : ps.take (m + 1) = ps.take m ++ [ps[m]] := by rw [List.take_succ_eq_append_getElem h]
theorem trim_snoc {q : Rat} (h : q ≠ 0) : ∀ ps : List Rat, trim (ps ++ [q]) = ps ++ [q]
  | [] => by simp [trim, h]
  | c :: r => by
    rw [List.cons_append, trim, trim_snoc h r]
    cases r <;> rfl
theorem bls_map {α : Type} (f : α → Bool) : ∀ l : List α, blsD (l.map fun a => D.bl (f a)) = some (l.map f)
  | [] => rfl
  | x :: l => by
    have := bls_map f l
    unfold blsD at this ⊢
    exact opts_cons rfl this
theorem fAll_map {α : Type} (f : α → Bool) {l : List α} {n : Nat} {L : Lh} (h : L[n]? = some (.lst (l.map fun a => .bl (f a)))) : fAll [.loc n] L = .val (.bl (l.all f)) L := by
  simp [items_loc h, bls_map]
theorem fAny_map {α : Type} (f : α → Bool) {l : List α} {n : Nat} {L : Lh} (h : L[n]? = some (.lst (l.map fun a => .bl (f a)))) : fAny [.loc n] L = .val (.bl (l.any f)) L := by
  simp [items_loc h, bls_map]
theorem sliceD_pol {L : Lh} {ps : List Rat} {k : Nat} : sliceD (pol ps) (some (k : Int)) none L = .val (pol (ps.drop k)) L := by
  unfold pol; rw [sliceD_tup, cutD_drop, List.map_drop]
theorem exp1 {α : Type} {v : List α} {w : Nat} (h : v.length = w + 1) : ∃ a u, v = a :: u ∧ u.length = w := by
  cases v with
  | nil => simp at h
  | cons a u => exact ⟨a, u, rfl, by simpa using h⟩
theorem mPopAt0 {L : Lh} {n : Nat} {d : D} {r : List D} (h : L[n]? = some (.lst (d :: r))) : mPopAt (.loc n) [.int 0] L = .val d (L.set n (.lst r)) := by
  have e : seqIndex? 0 (d :: r).length = some 0 := by unfold seqIndex?; simp
  unfold mPopAt onL
  simp only [h, e]
  simp
theorem get_set_ne {L : Lh} {m n : Nat} {c d : Cell} (h : L[m]? = some c) (hm : n ≠ m) : (L.set n d)[m]? = some c := by
  rw [List.getElem?_set_ne hm]; exact h
theorem get_set {L : Lh} {n : Nat} {c d : Cell} (h : L[n]? = some c) : (L.set n d)[n]? = some d := List.getElem?_set_self (lt_of_get h)
/-- the cells that stood stand -/
def Pre (L L' : Lh) : Prop := L'.take L.length = L
theorem Pre.refl (L : Lh) : Pre L L := by unfold Pre; simp
theorem Pre.le {L L' : Lh} (h : Pre L L') : L.length ≤ L'.length := by
  unfold Pre at h
  have := congrArg List.length h
  rw [List.length_take] at this; omega
theorem Pre.app {L L' X : Lh} (h : Pre L L') : Pre L (L' ++ X) := by
  have := h.le
  unfold Pre at *
  rw [List.take_append_of_le_length this]; exact h
theorem Pre.set {L L' : Lh} {m : Nat} {c : Cell} (h : Pre L L') (hm : L.length ≤ m) : Pre L (L'.set m c) := by
  unfold Pre at *
  rw [List.take_set_of_le hm]; exact h
theorem Pre.new {L X : Lh} : Pre L (L ++ X) := (Pre.refl L).app
theorem Pre.trans {L L1 L2 : Lh} (a : Pre L L1) (b : Pre L1 L2) : Pre L L2 := by
  have := a.le
  unfold Pre at *
  rw [← b, List.take_take, Nat.min_eq_left this] at a; exact a
theorem Pre.get {L L' : Lh} {m : Nat} {c : Cell} (h : Pre L L') (hm : L[m]? = some c) : L'[m]? = some c := by
  have := lt_of_get hm
  unfold Pre at h
  rw [← h, List.getElem?_take, if_pos this] at hm; exact hm
theorem wp_truncP {L L' : Lh} {d : D} {Q : D → Lh → Prop} {E : Str → Lh → Prop} (h : Pre L L') (hd : closed L.length d = true) (hq : Q d L) : wpR (trunc L d L') Q E := by
  unfold Pre at h
  have : trunc L d L' = .val d L := by unfold trunc; rw [if_pos h, if_pos hd]
  rw [this]; exact hq
theorem wp_truncPL {L L' : Lh} {m : Nat} {xs : List D} {Q : D → Lh → Prop} {E : Str → Lh → Prop} (h : Pre L L') (hm : L.length ≤ m) (hx : L'[m]? = some (.lst xs)) (hc : closeds L.length xs = true) (hq : Q (.loc L.length) (L ++ [.lst xs])) : wpR (trunc L (.loc m) L') Q E := by
  rw [trunc_new h hm hx hc]; exact hq
theorem exq1 {α : Type} {v : List α} (h : v.length = 1) : ∃ a0, v = [a0] := match v, h with | [a0], _ => ⟨a0, rfl⟩
theorem exq2 {α : Type} {v : List α} (h : v.length = 2) : ∃ a0 a1, v = [a0, a1] := match v, h with | [a0, a1], _ => ⟨a0, a1, rfl⟩
theorem exq3 {α : Type} {v : List α} (h : v.length = 3) : ∃ a0 a1 a2, v = [a0, a1, a2] := match v, h with | [a0, a1, a2], _ => ⟨a0, a1, a2, rfl⟩
theorem exq4 {α : Type} {v : List α} (h : v.length = 4) : ∃ a0 a1 a2 a3, v = [a0, a1, a2, a3] := match v, h with | [a0, a1, a2, a3], _ => ⟨a0, a1, a2, a3, rfl⟩
theorem exq5 {α : Type} {v : List α} (h : v.length = 5) : ∃ a0 a1 a2 a3 a4, v = [a0, a1, a2, a3, a4] := match v, h with | [a0, a1, a2, a3, a4], _ => ⟨a0, a1, a2, a3, a4, rfl⟩
theorem exq6 {α : Type} {v : List α} (h : v.length = 6) : ∃ a0 a1 a2 a3 a4 a5, v = [a0, a1, a2, a3, a4, a5] := match v, h with | [a0, a1, a2, a3, a4, a5], _ => ⟨a0, a1, a2, a3, a4, a5, rfl⟩
theorem exq7 {α : Type} {v : List α} (h : v.length = 7) : ∃ a0 a1 a2 a3 a4 a5 a6, v = [a0, a1, a2, a3, a4, a5, a6] := match v, h with | [a0, a1, a2, a3, a4, a5, a6], _ => ⟨a0, a1, a2, a3, a4, a5, a6, rfl⟩
theorem exq8 {α : Type} {v : List α} (h : v.length = 8) : ∃ a0 a1 a2 a3 a4 a5 a6 a7, v = [a0, a1, a2, a3, a4, a5, a6, a7] := match v, h with | [a0, a1, a2, a3, a4, a5, a6, a7], _ => ⟨a0, a1, a2, a3, a4, a5, a6, a7, rfl⟩
theorem exq9 {α : Type} {v : List α} (h : v.length = 9) : ∃ a0 a1 a2 a3 a4 a5 a6 a7 a8, v = [a0, a1, a2, a3, a4, a5, a6, a7, a8] := match v, h with | [a0, a1, a2, a3, a4, a5, a6, a7, a8], _ => ⟨a0, a1, a2, a3, a4, a5, a6, a7, a8, rfl⟩
theorem exq10 {α : Type} {v : List α} (h : v.length = 10) : ∃ a0 a1 a2 a3 a4 a5 a6 a7 a8 a9, v = [a0, a1, a2, a3, a4, a5, a6, a7, a8, a9] := match v, h with | [a0, a1, a2, a3, a4, a5, a6, a7, a8, a9], _ => ⟨a0, a1, a2, a3, a4, a5, a6, a7, a8, a9, rfl⟩
theorem exq11 {α : Type} {v : List α} (h : v.length = 11) : ∃ a0 a1 a2 a3 a4 a5 a6 a7 a8 a9 a10, v = [a0, a1, a2, a3, a4, a5, a6, a7, a8, a9, a10] := match v, h with | [a0, a1, a2, a3, a4, a5, a6, a7, a8, a9, a10], _ => ⟨a0, a1, a2, a3, a4, a5, a6, a7, a8, a9, a10, rfl⟩
theorem exq12 {α : Type} {v : List α} (h : v.length = 12) : ∃ a0 a1 a2 a3 a4 a5 a6 a7 a8 a9 a10 a11, v = [a0, a1, a2, a3, a4, a5, a6, a7, a8, a9, a10, a11] := match v, h with | [a0, a1, a2, a3, a4, a5, a6, a7, a8, a9, a10, a11], _ => ⟨a0, a1, a2, a3, a4, a5, a6, a7, a8, a9, a10, a11, rfl⟩
theorem exq13 {α : Type} {v : List α} (h : v.length = 13) : ∃ a0 a1 a2 a3 a4 a5 a6 a7 a8 a9 a10 a11 a12, v = [a0, a1, a2, a3, a4, a5, a6, a7, a8, a9, a10, a11, a12] := match v, h with | [a0, a1, a2, a3, a4, a5, a6, a7, a8, a9, a10, a11, a12], _ => ⟨a0, a1, a2, a3, a4, a5, a6, a7, a8, a9, a10, a11, a12, rfl⟩
theorem exq14 {α : Type} {v : List α} (h : v.length = 14) : ∃ a0 a1 a2 a3 a4 a5 a6 a7 a8 a9 a10 a11 a12 a13, v = [a0, a1, a2, a3, a4, a5, a6, a7, a8, a9, a10, a11, a12, a13] := match v, h with | [a0, a1, a2, a3, a4, a5, a6, a7, a8, a9, a10, a11, a12, a13], _ => ⟨a0, a1, a2, a3, a4, a5, a6, a7, a8, a9, a10, a11, a12, a13, rfl⟩
theorem exq15 {α : Type} {v : List α} (h : v.length = 15) : ∃ a0 a1 a2 a3 a4 a5 a6 a7 a8 a9 a10 a11 a12 a13 a14, v = [a0, a1, a2, a3, a4, a5, a6, a7, a8, a9, a10, a11, a12, a13, a14] := match v, h with | [a0, a1, a2, a3, a4, a5, a6, a7, a8, a9, a10, a11, a12, a13, a14], _ => ⟨a0, a1, a2, a3, a4, a5, a6, a7, a8, a9, a10, a11, a12, a13, a14, rfl⟩
theorem exq16 {α : Type} {v : List α} (h : v.length = 16) : ∃ a0 a1 a2 a3 a4 a5 a6 a7 a8 a9 a10 a11 a12 a13 a14 a15, v = [a0, a1, a2, a3, a4, a5, a6, a7, a8, a9, a10, a11, a12, a13, a14, a15] := match v, h with | [a0, a1, a2, a3, a4, a5, a6, a7, a8, a9, a10, a11, a12, a13, a14, a15], _ => ⟨a0, a1, a2, a3, a4, a5, a6, a7, a8, a9, a10, a11, a12, a13, a14, a15, rfl⟩
theorem exq17 {α : Type} {v : List α} (h : v.length = 17) : ∃ a0 a1 a2 a3 a4 a5 a6 a7 a8 a9 a10 a11 a12 a13 a14 a15 a16, v = [a0, a1, a2, a3, a4, a5, a6, a7, a8, a9, a10, a11, a12, a13, a14, a15, a16] := match v, h with | [a0, a1, a2, a3, a4, a5, a6, a7, a8, a9, a10, a11, a12, a13, a14, a15, a16], _ => ⟨a0, a1, a2, a3, a4, a5, a6, a7, a8, a9, a10, a11, a12, a13, a14, a15, a16, rfl⟩
theorem exq18 {α : Type} {v : List α} (h : v.length = 18) : ∃ a0 a1 a2 a3 a4 a5 a6 a7 a8 a9 a10 a11 a12 a13 a14 a15 a16 a17, v = [a0, a1, a2, a3, a4, a5, a6, a7, a8, a9, a10, a11, a12, a13, a14, a15, a16, a17] := match v, h with | [a0, a1, a2, a3, a4, a5, a6, a7, a8, a9, a10, a11, a12, a13, a14, a15, a16, a17], _ => ⟨a0, a1, a2, a3, a4, a5, a6, a7, a8, a9, a10, a11, a12, a13, a14, a15, a16, a17, rfl⟩
theorem exq19 {α : Type} {v : List α} (h : v.length = 19) : ∃ a0 a1 a2 a3 a4 a5 a6 a7 a8 a9 a10 a11 a12 a13 a14 a15 a16 a17 a18, v = [a0, a1, a2, a3, a4, a5, a6, a7, a8, a9, a10, a11, a12, a13, a14, a15, a16, a17, a18] := match v, h with | [a0, a1, a2, a3, a4, a5, a6, a7, a8, a9, a10, a11, a12, a13, a14, a15, a16, a17, a18], _ => ⟨a0, a1, a2, a3, a4, a5, a6, a7, a8, a9, a10, a11, a12, a13, a14, a15, a16, a17, a18, rfl⟩
theorem exq20 {α : Type} {v : List α} (h : v.length = 20) : ∃ a0 a1 a2 a3 a4 a5 a6 a7 a8 a9 a10 a11 a12 a13 a14 a15 a16 a17 a18 a19, v = [a0, a1, a2, a3, a4, a5, a6, a7, a8, a9, a10, a11, a12, a13, a14, a15, a16, a17, a18, a19] := match v, h with | [a0, a1, a2, a3, a4, a5, a6, a7, a8, a9, a10, a11, a12, a13, a14, a15, a16, a17, a18, a19], _ => ⟨a0, a1, a2, a3, a4, a5, a6, a7, a8, a9, a10, a11, a12, a13, a14, a15, a16, a17, a18, a19, rfl⟩
theorem exq21 {α : Type} {v : List α} (h : v.length = 21) : ∃ a0 a1 a2 a3 a4 a5 a6 a7 a8 a9 a10 a11 a12 a13 a14 a15 a16 a17 a18 a19 a20, v = [a0, a1, a2, a3, a4, a5, a6, a7, a8, a9, a10, a11, a12, a13, a14, a15, a16, a17, a18, a19, a20] := match v, h with | [a0, a1, a2, a3, a4, a5, a6, a7, a8, a9, a10, a11, a12, a13, a14, a15, a16, a17, a18, a19, a20], _ => ⟨a0, a1, a2, a3, a4, a5, a6, a7, a8, a9, a10, a11, a12, a13, a14, a15, a16, a17, a18, a19, a20, rfl⟩
theorem exq22 {α : Type} {v : List α} (h : v.length = 22) : ∃ a0 a1 a2 a3 a4 a5 a6 a7 a8 a9 a10 a11 a12 a13 a14 a15 a16 a17 a18 a19 a20 a21, v = [a0, a1, a2, a3, a4, a5, a6, a7, a8, a9, a10, a11, a12, a13, a14, a15, a16, a17, a18, a19, a20, a21] := match v, h with | [a0, a1, a2, a3, a4, a5, a6, a7, a8, a9, a10, a11, a12, a13, a14, a15, a16, a17, a18, a19, a20, a21], _ => ⟨a0, a1, a2, a3, a4, a5, a6, a7, a8, a9, a10, a11, a12, a13, a14, a15, a16, a17, a18, a19, a20, a21, rfl⟩
theorem exq23 {α : Type} {v : List α} (h : v.length = 23) : ∃ a0 a1 a2 a3 a4 a5 a6 a7 a8 a9 a10 a11 a12 a13 a14 a15 a16 a17 a18 a19 a20 a21 a22, v = [a0, a1, a2, a3, a4, a5, a6, a7, a8, a9, a10, a11, a12, a13, a14, a15, a16, a17, a18, a19, a20, a21, a22] := match v, h with | [a0, a1, a2, a3, a4, a5, a6, a7, a8, a9, a10, a11, a12, a13, a14, a15, a16, a17, a18, a19, a20, a21, a22], _ => ⟨a0, a1, a2, a3, a4, a5, a6, a7, a8, a9, a10, a11, a12, a13, a14, a15, a16, a17, a18, a19, a20, a21, a22, rfl⟩
theorem exq24 {α : Type} {v : List α} (h : v.length = 24) : ∃ a0 a1 a2 a3 a4 a5 a6 a7 a8 a9 a10 a11 a12 a13 a14 a15 a16 a17 a18 a19 a20 a21 a22 a23, v = [a0, a1, a2, a3, a4, a5, a6, a7, a8, a9, a10, a11, a12, a13, a14, a15, a16, a17, a18, a19, a20, a21, a22, a23] := match v, h with | [a0, a1, a2, a3, a4, a5, a6, a7, a8, a9, a10, a11, a12, a13, a14, a15, a16, a17, a18, a19, a20, a21, a22, a23], _ => ⟨a0, a1, a2, a3, a4, a5, a6, a7, a8, a9, a10, a11, a12, a13, a14, a15, a16, a17, a18, a19, a20, a21, a22, a23, rfl⟩
theorem exq25 {α : Type} {v : List α} (h : v.length = 25) : ∃ a0 a1 a2 a3 a4 a5 a6 a7 a8 a9 a10 a11 a12 a13 a14 a15 a16 a17 a18 a19 a20 a21 a22 a23 a24, v = [a0, a1, a2, a3, a4, a5, a6, a7, a8, a9, a10, a11, a12, a13, a14, a15, a16, a17, a18, a19, a20, a21, a22, a23, a24] := match v, h with | [a0, a1, a2, a3, a4, a5, a6, a7, a8, a9, a10, a11, a12, a13, a14, a15, a16, a17, a18, a19, a20, a21, a22, a23, a24], _ => ⟨a0, a1, a2, a3, a4, a5, a6, a7, a8, a9, a10, a11, a12, a13, a14, a15, a16, a17, a18, a19, a20, a21, a22, a23, a24, rfl⟩
/-- the cells of a script that are looked at -/
theorem pots_A {J : Int} {Γ : G3} {ns : List Int} (hJ : 1 ≤ J) (hJ2 : J ≤ 1000) (hΓ : Γ[0]? = some (some (.rol (ns.map D.int)))) : ∃ j : Nat, j ≤ 1000 ∧ iR1 (aCons (eCall fMax2 (aCons (eC (.int 1)) (aCons (eCall fMin2 (aCons (eC (.int J)) (aCons (eCall fLen (aCons (eVar 0) aNil)) aNil))) aNil))) aNil) Γ [] = .val ⟨rngD 0 j, fun _ => True⟩ [] := by
  refine ⟨(max 1 (min J ns.length)).toNat, by omega, ?_⟩
  have e : (if (if (ns.length : Int) < J then (ns.length : Int) else J) > 1 then (if (ns.length : Int) < J then (ns.length : Int) else J) else 1) = max 1 (min J ns.length) := by split <;> split <;> omega
  simp only [iR1, aCons, aNil, eCall, fMax2, fMin2, f2Int, eC, fLen, eVar, R3.bind, hΓ, itemsT_rol, List.length_map, e]
  rw [if_pos (by omega)]
theorem pots_B {J : Int} {Γ : G3} {ns : List Int} (hJ : 1 ≤ J) (hJ2 : J ≤ 1000) (hΓ : Γ[0]? = some (some (.rol (ns.map D.int)))) : ∃ j : Nat, j ≤ 1000 ∧ iR1 (aCons (eCall fMax2 (aCons (eC (.int 1)) (aCons (eCall fMin2 (aCons (eCall fLen (aCons (eVar 0) aNil)) (aCons (eC (.int J)) aNil))) aNil))) aNil) Γ [] = .val ⟨rngD 0 j, fun _ => True⟩ [] := by
  refine ⟨(max 1 (min J ns.length)).toNat, by omega, ?_⟩
  have e : (if (if J < (ns.length : Int) then J else (ns.length : Int)) > 1 then (if J < (ns.length : Int) then J else (ns.length : Int)) else 1) = max 1 (min J ns.length) := by split <;> split <;> omega
  simp only [iR1, aCons, aNil, eCall, fMax2, fMin2, f2Int, eC, fLen, eVar, R3.bind, hΓ, itemsT_rol, List.length_map, e]
  rw [if_pos (by omega)]
/-- a law that goes over its cells -/
theorem law_loop {w : Nat} {it : I3} {body : S3} {ns : List Int} (hit : ∃ j : Nat, j ≤ 1000 ∧ it (some (.rol (ns.map D.int)) :: List.replicate (w + 1) none) [] = .val ⟨rngD 0 j, fun _ => True⟩ [])
    (step : ∀ i, i ≤ 1000 → ∀ v : G3, v.length = w → ∀ L, wpS (body (some (.rol (ns.map D.int)) :: some (.int (i : Nat)) :: v) L) ⟨fun Γ' L' => ∃ v', Γ' = some (.rol (ns.map D.int)) :: v' ∧ v'.length = w + 1, fun _ _ => False, fun _ _ => False, fun _ _ => False, fun _ _ _ => False⟩) : ∃ L, run3 1 (w + 2) (sSeq (sFor it (gN 1) body) (sRet (eC (.bl true)))) [.rol (ns.map D.int)] [] = .val (.bl true) L := by
  obtain ⟨j, hj, hit⟩ := hit
  have main : wpR (run3 1 (w + 2) (sSeq (sFor it (gN 1) body) (sRet (eC (.bl true)))) [.rol (ns.map D.int)] []) (fun d L => d = .bl true) noE := by
    refine wp_run rfl ?_
    have eΓ : [D.rol (ns.map D.int)].map some ++ List.replicate (w + 2 - [D.rol (ns.map D.int)].length) none = some (.rol (ns.map D.int)) :: List.replicate (w + 1) none := by simp
    rw [eΓ, wp_sSeq, wp_sFor, hit, wpR_val]
    refine wp_forN (fun k Γ L1 => ∃ v, v.length = w + 1 ∧ Γ = some (.rol (ns.map D.int)) :: v) ⟨_, by simp, rfl⟩ (fun _ _ _ _ _ => trivial) (fun k hk Γ L1 hI => ?_) (fun Γ L1 hI => ?_)
    · obtain ⟨v, hv, rfl⟩ := hI
      obtain ⟨v1, v, rfl, hv⟩ := exp1 hv
      have hk' : k < j := by simpa using hk
      have s := step k (by omega) v (by simpa using hv) L1
      simp only [rngD_get, wp_gN, List.set]
      have ek : (0 : Int) + (k : Int) = (k : Int) := by omega
      rw [ek]
      generalize body (some (.rol (ns.map D.int)) :: some (.int (k : Nat)) :: v) L1 = o at *
      cases o with
      | nx Γ' L' => obtain ⟨v', e, h⟩ := s; exact ⟨v', h, e⟩
      | ret _ _ => exact s.elim
      | brk _ _ => exact s.elim
      | ct _ _ => exact s.elim
      | exn _ _ _ => exact s.elim
      | stuck => exact s.elim
    · rw [Po.seq_nx, wp_sRet]
      simp only [eC, wpR_val, Po.fn_rt]
      exact wp_trunc rfl (fun _ => rfl) rfl
  obtain ⟨d', L', e, rfl⟩ := main.ex
  exact ⟨L', e⟩
/-! ## drawing, of any law -/
noncomputable def dDraw (A B M M2 V : Int) : S3 :=
    (sSeq (sIf (tE (eOp fGt (eOp fIx (eVar 0) (eC (.int 0))) (eC (.int 0)))) (sSeq (sAsg (eCall fDivmod (aCons (eOp fIx (eVar 0) (eC (.int 0))) (aCons (eVar 1) aNil))) (gT 2 (gCons3 (gS (eVar 0) (eC (.int 0))) (gCons3 (gN 2) gNil3))))
    (sRet (eVar 2))) sNext)
    (sSeq (sAsg (eOp fMod (eOp fAdd (eOp fMul (eOp fIx (eVar 0) (eC (.int 1))) (eC (.int A))) (eC (.int B))) (eC (.int M))) (gS (eVar 0) (eC (.int 1))))
    (sRet (eOp fMod (eOp fFdiv (eOp fMod (eOp fMul (eOp fIx (eVar 0) (eC (.int 1))) (eOp fIx (eVar 0) (eC (.int 1)))) (eC (.int M2))) (eC (.int V))) (eVar 1)))))
theorem cmulS {a b : Int} (ha : a.natAbs < 2 ^ 62) (hb : b.natAbs < 2 ^ 62) : CMulX a b := mulx_ok (a := 62) (b := 62) ha hb (by decide)
theorem nopyS {a j : Int} (h : j.natAbs < 2 ^ 60) : Builtin.divisionGoesByPylong a j = false := PyProof.noPylong_of_log2 (by
  by_cases h0 : j.natAbs = 0
  · rw [h0]; decide +kernel
  · have := (Nat.log2_lt h0).mpr h
    omega)
theorem wp_draw {A B M M2 V m : Int} {n : Nat} {L : Lh} {Q : D → Lh → Prop} {E : Str → Lh → Prop} (hA : 0 ≤ A ∧ A < 1000000) (hB : 0 ≤ B) (hM : 0 < M ∧ M ≤ 2147483647) (hM2 : 0 < M2) (hV : 0 < V) (hp : PotAt L n) (h0 : 0 < m) (hm : m < 2 ^ 60)
    (h : ∀ d L', 0 ≤ d → d < m → Grow n L L' → PotAt L' n → Q (.int d) L') : wpR (run3 2 3 (dDraw A B M M2 V) [.loc n, .int m] L) Q E := by
  obtain ⟨p, q, hL, p0, q0, q1⟩ := id hp
  have hn : n < L.length := lt_of_get hL
  have hi := items_loc hL
  have hset : ∀ (c : Cell), (L.set n c)[n]? = some c := fun c => List.getElem?_set_self hn
  refine wp_run rfl ?_
  unfold dDraw
  simp [hi, fIx]
  refine wp_if (fun hpos => ?_) (fun hpos => ?_)
  · have np : Builtin.divisionGoesByPylong p m = false := nopyS (by omega)
    simp [hi, hpos, h0, np, fIx, setR_eq hL (show ixN 2 0 = some 0 by simp [ixN])]
    refine wp_truncG rfl (But.grow But.set) ⟨p / m, q, hset _, Int.ediv_nonneg p0 (by omega), q0, q1⟩ hn fun L'' g pp => ?_
    exact h _ _ (Int.emod_nonneg _ (by omega)) (Int.emod_lt_of_pos _ h0) g pp
  · have c1 : CMulX q A := cmulS (by omega) (by omega)
    have hq2 := Int.emod_nonneg (q * A + B) (show M ≠ 0 by omega)
    have hq3 := Int.emod_lt_of_pos (q * A + B) hM.1
    have f1 : (q * A + B).fmod M = (q * A + B) % M := Int.fmod_eq_emod_of_nonneg _ (by omega)
    generalize hqv : (q * A + B) % M = q' at *
    have c2 : CMulX q' q' := cmulS (by omega) (by omega)
    have hi2 := items_loc (hset (.lst [.int p, .int q']))
    have n1 : M ≠ 0 := by omega
    have n2 : M2 ≠ 0 := by omega
    have n3 : V ≠ 0 := by omega
    have n4 : m ≠ 0 := by omega
    simp [hi, fIx, c1, f1, n1, n2, n3, n4, setR_eq hL (show ixN 2 1 = some 1 by simp [ixN]), hi2, c2]
    refine wp_truncG rfl (But.grow But.set) ⟨p, q', hset _, p0, hq2, by omega⟩ hn fun L'' g pp => ?_
    refine h _ _ ?_ ?_ g pp
    · rw [Int.fmod_eq_emod_of_nonneg _ (by omega)]; exact Int.emod_nonneg _ n4
    · rw [Int.fmod_eq_emod_of_nonneg _ (by omega)]; exact Int.emod_lt_of_pos _ h0
/-! ## what is told apart by ==: values of one kind -/
theorem dec_irr {p : Prop} {i j : Decidable p} : @decide p i = @decide p j := by
  cases Subsingleton.elim i j; rfl
structure Enc (α : Type) where
  d : α → D
  p : α → PyData
  k : Nat
  dat : ∀ (L : Lh) (a : α) (m : Nat), k ≤ m → G.dat m L (d a) = some (p a)
  eqv : ∀ a b, PyData.eqv (p a) (p b) = decide (a = b)
  lay : ∀ a, PyData.canLay0 (p a) = true
  dep : ∀ a, PyData.depth (p a) ≤ k
  clo : ∀ n a, closed n (d a) = true
def encI : Enc Int where
  d := .int
  p := .int
  k := 1
  dat := fun L a m h => by obtain ⟨m, rfl⟩ : ∃ j, m = j + 1 := ⟨m - 1, by omega⟩; rfl
  eqv := fun a b => by rw [eqv_int]; exact dec_irr
  lay := fun a => rfl
  dep := fun a => Nat.zero_le _
  clo := fun n a => rfl
def encF : Enc Rat where
  d := fr
  p := datF
  k := 2
  dat := fun L a m h => by obtain ⟨m, rfl⟩ : ∃ j, m = j + 2 := ⟨m - 2, by omega⟩; rfl
  eqv := fun a b => by unfold datF; rw [eqv_fr]; exact dec_irr
  lay := fun a => rfl
  dep := fun a => by simp [datF, PyData.depth, PyData.depthAll]
  clo := fun n a => rfl
section
variable {α β : Type} (e : Enc α) (f : Enc β)
theorem Enc.eqvs : ∀ ps qs : List α, PyData.eqvAll (ps.map e.p) (qs.map e.p) = decide (ps = qs)
  | [], [] => by simp
  | [], q :: qs => by simp
  | p :: ps, [] => by simp
  | p :: ps, q :: qs => by
    rw [List.map_cons, List.map_cons, eqv_cons, Enc.eqvs ps qs, e.eqv]
    by_cases h : p = q <;> by_cases h2 : ps = qs <;> simp [h, h2]
theorem Enc.lays : ∀ ps : List α, PyData.canLayAll0 (ps.map e.p) = true
  | [] => by simp [PyData.canLayAll0]
  | p :: ps => by simp [PyData.canLayAll0, Enc.lays ps, e.lay]
theorem Enc.deps : ∀ ps : List α, PyData.depthAll (ps.map e.p) ≤ e.k
  | [] => by simp [PyData.depthAll]
  | p :: ps => by
    have := Enc.deps ps
    have h2 := e.dep p
    simp [PyData.depthAll]
    omega
theorem Enc.opts (L : Lh) (m : Nat) (h : e.k ≤ m) : ∀ ps : List α, G.opts (G.dat m L) (ps.map e.d) = some (ps.map e.p)
  | [] => rfl
  | p :: ps => opts_cons (e.dat L p m h) (Enc.opts L m h ps)
theorem Enc.clos (n : Nat) : ∀ ps : List α, closeds n (ps.map e.d) = true
  | [] => rfl
  | p :: ps => by rw [List.map_cons, closeds, e.clo, Enc.clos n ps]; rfl
theorem Enc.inj {a b : α} (h : e.d a = e.d b) : a = b := by
  have h1 := e.dat [] a e.k (Nat.le_refl _)
  rw [h, e.dat [] b e.k (Nat.le_refl _)] at h1
  have h2 := e.eqv a a
  have h3 := e.eqv b a
  rw [Option.some.inj h1] at h3
  rw [h2] at h3
  have h4 : b = a := by simpa using h3.symm
  exact h4.symm
/-- tuples of things of one kind -/
def encL : Enc (List α) where
  d := fun ps => .tup (ps.map e.d)
  p := fun ps => .tuple (ps.map e.p)
  k := e.k + 1
  dat := fun L a m h => by
    obtain ⟨m, rfl⟩ : ∃ j, m = j + 1 := ⟨m - 1, by omega⟩
    rw [dat_tup, e.opts L m (by omega)]; rfl
  eqv := fun a b => by rw [eqv_tuple, e.eqvs]; exact dec_irr
  lay := fun a => by simp only [PyData.canLay0]; exact e.lays a
  dep := fun a => by have := e.deps a; simp only [PyData.depth]; omega
  clo := fun n a => e.clos n a
/-- pairs -/
def encP : Enc (α × β) where
  d := fun x => .tup [e.d x.1, f.d x.2]
  p := fun x => .tuple [e.p x.1, f.p x.2]
  k := e.k + f.k + 1
  dat := fun L a m h => by
    obtain ⟨m, rfl⟩ : ∃ j, m = j + 1 := ⟨m - 1, by omega⟩
    rw [dat_tup, opts_cons (e.dat L a.1 m (by omega)) (opts_cons (f.dat L a.2 m (by omega)) rfl)]; rfl
  eqv := fun a b => by
    obtain ⟨a1, a2⟩ := a
    obtain ⟨b1, b2⟩ := b
    rw [eqv_tuple, eqv_cons, eqv_cons, eqv_nil, e.eqv, f.eqv]
    by_cases h : a1 = b1 <;> by_cases h2 : a2 = b2 <;> simp [h, h2]
  lay := fun a => by simp [PyData.canLay0, PyData.canLayAll0, e.lay, f.lay]
  dep := fun a => by have := e.dep a.1; have := f.dep a.2; simp [PyData.depth, PyData.depthAll]; omega
  clo := fun n a => by simp [e.clo, f.clo]
end
/-! spots -/
structure Spo where
  x : Rat
  y : Rat
  w : Rat
def spD (s : Spo) : D := .tup [fr s.x, fr s.y, fr s.w]
def encS : Enc Spo where
  d := spD
  p := fun s => .tuple [datF s.x, datF s.y, datF s.w]
  k := 3
  dat := fun L a m h => by
    obtain ⟨m, rfl⟩ : ∃ j, m = j + 1 := ⟨m - 1, by omega⟩
    unfold spD
    have q : ∀ r : Rat, G.dat m L (fr r) = some (datF r) := fun r => encF.dat L r m (show 2 ≤ m by omega)
    rw [dat_tup, opts_cons (q a.x) (opts_cons (q a.y) (opts_cons (q a.w) rfl))]; rfl
  eqv := fun a b => by
    obtain ⟨a1, a2, a3⟩ := a
    obtain ⟨b1, b2, b3⟩ := b
    have h1 := encF.eqv a1 b1
    have h2 := encF.eqv a2 b2
    have h3 := encF.eqv a3 b3
    change PyData.eqv (datF a1) (datF b1) = _ at h1
    change PyData.eqv (datF a2) (datF b2) = _ at h2
    change PyData.eqv (datF a3) (datF b3) = _ at h3
    rw [eqv_tuple, eqv_cons, eqv_cons, eqv_cons, eqv_nil, h1, h2, h3]
    by_cases h : a1 = b1 <;> by_cases h2 : a2 = b2 <;> by_cases h3 : a3 = b3 <;> simp [h, h2, h3]
  lay := fun a => rfl
  dep := fun a => by simp [datF, PyData.depth, PyData.depthAll]
  clo := fun n a => rfl
/-! == -/
theorem eqD_of {L : Lh} {x y : D} {a b : PyData} {r : Bool} (h1 : G.dat 8 L x = some a) (h2 : G.dat 8 L y = some b) (s1 : SeqAt.shaped a = true) (s2 : SeqAt.shaped b = true) (hr : PyData.eqv a b = r) : fEq x y L = .val (.bl r) L ∧ fNe x y L = .val (.bl (!r)) L := by
  simp [fEq, fNe, cmpD, h1, h2, s1, s2, hr]
theorem Enc.shaped {α : Type} (e : Enc α) (hk : e.k ≤ 8) (a : α) : SeqAt.shaped (e.p a) = true := by
  have := e.dep a
  unfold SeqAt.shaped
  rw [Bool.and_eq_true]
  exact ⟨e.lay a, decide_eq_true (by omega)⟩
theorem Enc.shapedL {α : Type} (e : Enc α) (hk : e.k ≤ 8) (as : List α) : SeqAt.shaped (.list (as.map e.p)) = true := by
  have := e.deps as
  unfold SeqAt.shaped
  rw [Bool.and_eq_true]
  exact ⟨by simp only [PyData.canLay0]; exact e.lays as, decide_eq_true (by simp only [PyData.depth]; omega)⟩
theorem Enc.eq {α : Type} (e : Enc α) (hk : e.k ≤ 8 := by decide) {L : Lh} {a b : α} [i : Decidable (a = b)] : fEq (e.d a) (e.d b) L = .val (.bl (decide (a = b))) L := (eqD_of (e.dat L a 8 hk) (e.dat L b 8 hk) (e.shaped hk a) (e.shaped hk b) ((e.eqv a b).trans dec_irr)).1
theorem Enc.ne {α : Type} (e : Enc α) (hk : e.k ≤ 8 := by decide) {L : Lh} {a b : α} [i : Decidable (a = b)] : fNe (e.d a) (e.d b) L = .val (.bl (!decide (a = b))) L := (eqD_of (e.dat L a 8 hk) (e.dat L b 8 hk) (e.shaped hk a) (e.shaped hk b) ((e.eqv a b).trans dec_irr)).2
theorem Enc.datL {α : Type} (e : Enc α) {L : Lh} {n m : Nat} {as : List α} (h : L[n]? = some (.lst (as.map e.d))) (hm : e.k + 1 ≤ m) : G.dat m L (.loc n) = some (.list (as.map e.p)) := by
  obtain ⟨m, rfl⟩ : ∃ j, m = j + 1 := ⟨m - 1, by omega⟩
  rw [dat_loc h, e.opts L m (by omega)]; rfl
/-- == of two lists of the cells -/
theorem Enc.eqL {α : Type} (e : Enc α) {L : Lh} {n m : Nat} {as bs : List α} (h1 : L[n]? = some (.lst (as.map e.d))) (h2 : L[m]? = some (.lst (bs.map e.d))) (hk : e.k ≤ 7 := by decide) [i : Decidable (as = bs)] :
    fEq (.loc n) (.loc m) L = .val (.bl (decide (as = bs))) L ∧ fNe (.loc n) (.loc m) L = .val (.bl (!decide (as = bs))) L :=
  eqD_of (e.datL h1 (by omega)) (e.datL h2 (by omega)) (e.shapedL (by omega) as) (e.shapedL (by omega) bs) ((eqv_list _ _).trans ((e.eqvs as bs).trans dec_irr))
theorem Enc.eqS {α : Type} (e : Enc α) {L : Lh} {n m : Nat} {as : List α} (h1 : L[n]? = some (.lst (as.map e.d))) (h2 : L[m]? = some (.lst (as.map e.d))) (hk : e.k ≤ 7 := by decide) :
    fEq (.loc n) (.loc m) L = .val (.bl true) L ∧ fNe (.loc n) (.loc m) L = .val (.bl false) L := by
  have := e.eqL h1 h2 hk
  rw [decide_eq_true rfl] at this
  exact this
@[simp] theorem fEq_fr {L : Lh} {p q : Rat} : fEq (fr p) (fr q) L = .val (.bl (decide (p = q))) L := encF.eq
@[simp] theorem fNe_fr {L : Lh} {p q : Rat} : fNe (fr p) (fr q) L = .val (.bl (!decide (p = q))) L := encF.ne
@[simp] theorem fEq_sp {L : Lh} {p q : Spo} : fEq (spD p) (spD q) L = .val (.bl (decide (p = q))) L := encS.eq
@[simp] theorem fNe_sp {L : Lh} {p q : Spo} : fNe (spD p) (spD q) L = .val (.bl (!decide (p = q))) L := encS.ne
@[simp] theorem fEq_pol {L : Lh} {p q : List Rat} : fEq (pol p) (pol q) L = .val (.bl (decide (p = q))) L := (encL encF).eq
@[simp] theorem fNe_pol {L : Lh} {p q : List Rat} : fNe (pol p) (pol q) L = .val (.bl (!decide (p = q))) L := (encL encF).ne
@[simp] theorem fEq_int {L : Lh} {p q : Int} : fEq (.int p) (.int q) L = .val (.bl (decide (p = q))) L := encI.eq
@[simp] theorem fNe_int {L : Lh} {p q : Int} : fNe (.int p) (.int q) L = .val (.bl (!decide (p = q))) L := encI.ne
/-- in a list of the cells, or a list that is there -/
theorem Enc.inL {α : Type} (e : Enc α) {L : Lh} {n : Nat} {a : α} {as : List α} (h : L[n]? = some (.lst (as.map e.d))) (hk : e.k ≤ 7 := by decide) :
    fIn false (e.d a) (.loc n) L = .val (.bl (decide (a ∈ as))) L ∧ fIn true (e.d a) (.loc n) L = .val (.bl (!decide (a ∈ as))) L := by
  have s1 := e.shaped (by omega) a
  have s2 := e.shapedL (by omega) as
  have d1 := e.dat L a 8 (by omega)
  have d2 := e.datL h (show e.k + 1 ≤ 8 by omega)
  have hr : ((as.map e.p).any fun z => PyData.eqv z (e.p a)) = decide (a ∈ as) := by
    clear h s2 d2
    induction as with
    | nil => simp
    | cons b as ih =>
      rw [List.map_cons, List.any_cons, ih, e.eqv]
      by_cases hb : b = a
      · subst hb; simp
      · have : ¬ a = b := fun z => hb z.symm
        simp [hb, this]
  simp only [fIn, d1, d2, s1, s2, hr, Bool.and_self, if_true, Bool.false_eq_true, if_false]
  simp
/-! spots by their parts -/
@[simp] theorem fIx_sp0 {L : Lh} {s : Spo} : fIx (spD s) (.int 0) L = .val (fr s.x) L := fIx_tup (k := 0) rfl rfl
@[simp] theorem fIx_sp1 {L : Lh} {s : Spo} : fIx (spD s) (.int 1) L = .val (fr s.y) L := fIx_tup (k := 1) rfl rfl
@[simp] theorem fIx_sp2 {L : Lh} {s : Spo} : fIx (spD s) (.int 2) L = .val (fr s.w) L := fIx_tup (k := 2) rfl rfl
@[simp] theorem closed_sp (n : Nat) (s : Spo) : closed n (spD s) = true := (rfl)
@[simp ↓] theorem gT_sp {gs : Tgs3} {s : Spo} {Γ : G3} {L : Lh} {P : Po} : wpS (gT 3 gs (spD s) Γ L) P = wpS (gs [fr s.x, fr s.y, fr s.w] Γ L) P := rfl
@[simp ↓] theorem gT_frw {gs : Tgs3} {q : Rat} {Γ : G3} {L : Lh} {P : Po} : wpS (gT 2 gs (fr q) Γ L) P = wpS (gs [.int q.num, .int q.den] Γ L) P := rfl
noncomputable def d_lever : S3 :=
    (sSeq (sSet 2 (eC k_ONE))
    (sSeq (sFor (iEnB (eVar 0)) (gT 2 (gCons3 (gN 3) (gCons3 (gN 4) gNil3))) (sIf (tE (eOp fNe (eVar 3) (eVar 1))) (sSet 2 (eCall fn_times (aCons (eVar 2) (aCons (eCall fn_less (aCons (eOp fIx (eVar 0) (eVar 1)) (aCons (eVar 4) aNil))) aNil)))) sNext))
    (sRet (eCall fn_over (aCons (eC k_ONE) (aCons (eVar 2) aNil))))))
noncomputable def fn_lever : Fn3 := run3 2 5 d_lever
noncomputable def d_levers : S3 :=
    (sRet (eLc (iR1 (aCons (eCall fLen (aCons (eVar 0) aNil)) aNil)) (gN 1) tTrue (eCall fn_lever (aCons (eVar 0) (aCons (eVar 1) aNil))) [1]))
noncomputable def fn_levers : Fn3 := run3 1 2 d_levers
noncomputable def d_weighed : S3 :=
    (sSeq (sSet 2 (eC k_NOUGHT))
    (sSeq (sFor (iZp (eCall fn_levers (aCons (eVar 0) aNil)) (eVar 1)) (gT 2 (gCons3 (gN 3) (gCons3 (gN 4) gNil3))) (sSet 2 (eCall fn_plus (aCons (eVar 2) (aCons (eCall fn_times (aCons (eVar 3) (aCons (eVar 4) aNil))) aNil)))))
    (sRet (eVar 2))))
noncomputable def fn_weighed : Fn3 := run3 2 5 d_weighed
noncomputable def d_unsigned : S3 :=
    (sRet (eTup (aCons (eCall fAbs (aCons (eOp fIx (eVar 0) (eC (.int 0))) aNil)) (aCons (eOp fIx (eVar 0) (eC (.int 1))) aNil))))
noncomputable def fn_unsigned : Fn3 := run3 1 1 d_unsigned
noncomputable def d_opposite : S3 :=
    (sRet (eTup (aCons (eOp fSub (eC (.int 0)) (eOp fIx (eVar 0) (eC (.int 0)))) (aCons (eOp fIx (eVar 0) (eC (.int 1))) aNil))))
noncomputable def fn_opposite : Fn3 := run3 1 1 d_opposite
noncomputable def d_room_of : S3 :=
    (sSeq (sSet 1 (eC k_NOUGHT))
    (sSeq (sFor (iZp (eCall fn_levers (aCons (eLc (iLT (eVar 0)) (gT 3 (gCons3 (gN 4) (gCons3 (gN 5) (gCons3 (gN 6) gNil3)))) tTrue (eVar 4) [4, 5, 6]) aNil)) (eVar 0)) (gT 2 (gCons3 (gN 2) (gCons3 (gN 3) gNil3))) (sSet 1 (eCall fn_plus (aCons (eVar 1) (aCons (eCall fn_over (aCons (eCall fn_unsigned (aCons (eVar 2) aNil)) (aCons (eOp fIx (eVar 3) (eC (.int 2))) aNil))) aNil)))))
    (sRet (eVar 1))))
noncomputable def fn_room_of : Fn3 := run3 1 7 d_room_of
noncomputable def d_first_error : S3 :=
    (sSeq (sSet 1 (eCall fn_weighed (aCons (eLc (iLT (eVar 0)) (gT 3 (gCons3 (gN 2) (gCons3 (gN 3) (gCons3 (gN 4) gNil3)))) tTrue (eVar 2) [2, 3, 4]) (aCons (eLc (iLT (eVar 0)) (gT 3 (gCons3 (gN 2) (gCons3 (gN 3) (gCons3 (gN 4) gNil3)))) tTrue (eVar 3) [2, 3, 4]) aNil))))
    (sSeq (sSet 5 (eCall fn_over (aCons (eVar 1) (aCons (eCall fn_room_of (aCons (eVar 0) aNil)) aNil))))
    (sRet (eIf (tE (eOp fEq (eOp fMod (eCall fLen (aCons (eVar 0) aNil)) (eC (.int 2))) (eC (.int 1)))) (eVar 5) (eCall fn_opposite (aCons (eVar 5) aNil))))))
noncomputable def fn_first_error : Fn3 := run3 1 6 d_first_error
noncomputable def d_level : S3 :=
    (sSeq (sSet 1 (eCall fn_first_error (aCons (eVar 0) aNil)))
    (sSeq (sSet 2 (eLst aNil))
    (sSeq (sFor (iEnB (eSl (eVar 0) (oSo (eC (.int 1))) oNo)) (gT 2 (gCons3 (gN 3) (gCons3 (gT 3 (gCons3 (gN 4) (gCons3 (gN 5) (gCons3 (gN 6) gNil3)))) gNil3))) (sSeq (sSet 7 (eIf (tE (eOp fEq (eOp fMod (eVar 3) (eC (.int 2))) (eC (.int 1)))) (eVar 1) (eCall fn_opposite (aCons (eVar 1) aNil))))
    (sDrop (eMt "list" mAppend (eVar 2) (aCons (eTup (aCons (eVar 4) (aCons (eCall fn_less (aCons (eVar 5) (aCons (eCall fn_over (aCons (eVar 7) (aCons (eVar 6) aNil))) aNil))) aNil))) aNil)))))
    (sRet (eTup (aCons (eCall fn_through (aCons (eVar 2) aNil)) (aCons (eVar 1) aNil)))))))
noncomputable def fn_level : Fn3 := run3 1 8 d_level
noncomputable def d_bound : S3 :=
    (sRet (eCall fn_unsigned (aCons (eCall fn_first_error (aCons (eVar 0) aNil)) aNil)))
noncomputable def fn_bound : Fn3 := run3 1 1 d_bound
noncomputable def d_law_pot : S3 :=
    (sSeq (sSet 2 (eIf (tE (eOp fLt (eVar 1) (eCall fLen (aCons (eVar 0) aNil)))) (eOp fIx (eVar 0) (eVar 1)) (eC (.int 0))))
    (sRet (eLst (aCons (eCall fMax2 (aCons (eC (.int 0)) (aCons (eOp fSub (eCall fAbs (aCons (eVar 2) aNil)) (eOp fPow (eC (.int 10)) (eC (.int 18)))) aNil))) (aCons (eOp fAdd (eOp fMod (eOp fAdd (eOp fAdd (eCall fAbs (aCons (eVar 2) aNil)) (eOp fMul (eC (.int 7919)) (eVar 1))) (eC (.int 3))) (eC (.int 2147483629))) (eC (.int 1))) aNil)))))
noncomputable def fn_law_pot : Fn3 := run3 2 3 d_law_pot
noncomputable def d_law_draw : S3 :=
    (sSeq (sIf (tE (eOp fGt (eOp fIx (eVar 0) (eC (.int 0))) (eC (.int 0)))) (sSeq (sAsg (eCall fDivmod (aCons (eOp fIx (eVar 0) (eC (.int 0))) (aCons (eVar 1) aNil))) (gT 2 (gCons3 (gS (eVar 0) (eC (.int 0))) (gCons3 (gN 2) gNil3))))
    (sRet (eVar 2))) sNext)
    (sSeq (sAsg (eOp fMod (eOp fAdd (eOp fMul (eOp fIx (eVar 0) (eC (.int 1))) (eC (.int 48271))) (eC (.int 39373))) (eC (.int 2147483647))) (gS (eVar 0) (eC (.int 1))))
    (sRet (eOp fMod (eOp fFdiv (eOp fMod (eOp fMul (eOp fIx (eVar 0) (eC (.int 1))) (eOp fIx (eVar 0) (eC (.int 1)))) (eC (.int 2147483629))) (eC (.int 3))) (eVar 1)))))
noncomputable def fn_law_draw : Fn3 := run3 2 3 d_law_draw
noncomputable def d_law_fraction : S3 :=
    (sSeq (sPar 2 3 (eCall fAbs (aCons (eVar 0) aNil)) (eCall fAbs (aCons (eVar 1) aNil)))
    (sSeq (sWhile (tE (eOp fNe (eVar 3) (eC (.int 0)))) (sPar 2 3 (eVar 3) (eOp fMod (eVar 2) (eVar 3))))
    (sSeq (sIf (tE (eOp fLt (eVar 1) (eC (.int 0)))) (sSet 2 (eUn fNeg (eVar 2))) sNext)
    (sRet (eTup (aCons (eOp fFdiv (eVar 0) (eVar 2)) (aCons (eOp fFdiv (eVar 1) (eVar 2)) aNil)))))))
noncomputable def fn_law_fraction : Fn3 := run3 2 4 d_law_fraction
noncomputable def d_law_plus : S3 :=
    (sRet (eCall fn_law_fraction (aCons (eOp fAdd (eOp fMul (eOp fIx (eVar 0) (eC (.int 0))) (eOp fIx (eVar 1) (eC (.int 1)))) (eOp fMul (eOp fIx (eVar 1) (eC (.int 0))) (eOp fIx (eVar 0) (eC (.int 1))))) (aCons (eOp fMul (eOp fIx (eVar 0) (eC (.int 1))) (eOp fIx (eVar 1) (eC (.int 1)))) aNil))))
noncomputable def fn_law_plus : Fn3 := run3 2 2 d_law_plus
noncomputable def d_law_less : S3 :=
    (sRet (eCall fn_law_fraction (aCons (eOp fSub (eOp fMul (eOp fIx (eVar 0) (eC (.int 0))) (eOp fIx (eVar 1) (eC (.int 1)))) (eOp fMul (eOp fIx (eVar 1) (eC (.int 0))) (eOp fIx (eVar 0) (eC (.int 1))))) (aCons (eOp fMul (eOp fIx (eVar 0) (eC (.int 1))) (eOp fIx (eVar 1) (eC (.int 1)))) aNil))))
noncomputable def fn_law_less : Fn3 := run3 2 2 d_law_less
noncomputable def d_law_times : S3 :=
    (sRet (eCall fn_law_fraction (aCons (eOp fMul (eOp fIx (eVar 0) (eC (.int 0))) (eOp fIx (eVar 1) (eC (.int 0)))) (aCons (eOp fMul (eOp fIx (eVar 0) (eC (.int 1))) (eOp fIx (eVar 1) (eC (.int 1)))) aNil))))
noncomputable def fn_law_times : Fn3 := run3 2 2 d_law_times
noncomputable def d_law_by : S3 :=
    (sRet (eCall fn_law_fraction (aCons (eOp fMul (eOp fIx (eVar 0) (eC (.int 0))) (eOp fIx (eVar 1) (eC (.int 1)))) (aCons (eOp fMul (eOp fIx (eVar 0) (eC (.int 1))) (eOp fIx (eVar 1) (eC (.int 0)))) aNil))))
noncomputable def fn_law_by : Fn3 := run3 2 2 d_law_by
noncomputable def d_law_is_fraction : S3 :=
    (sSeq (sIf (tOr3 (tNot3 (tE (eCall fIsi (aCons (eVar 0) (aCons (eC (.val (.ty "tuple"))) aNil))))) (tE (eOp fNe (eCall fLen (aCons (eVar 0) aNil)) (eC (.int 2))))) (sRet (eC (.bl false))) sNext)
    (sSeq (sFor (iLT (eVar 0)) (gN 1) (sIf (tOr3 (tNot3 (tE (eCall fIsi (aCons (eVar 1) (aCons (eC (.val (.ty "int"))) aNil))))) (tE (eCall fIsi (aCons (eVar 1) (aCons (eC (.val (.ty "bool"))) aNil))))) (sRet (eC (.bl false))) sNext))
    (sRet (eAnd (eOp fGt (eOp fIx (eVar 0) (eC (.int 1))) (eC (.int 0))) (eOp fEq (eVar 0) (eCall fn_law_fraction (aCons (eOp fIx (eVar 0) (eC (.int 0))) (aCons (eOp fIx (eVar 0) (eC (.int 1))) aNil))))))))
noncomputable def fn_law_is_fraction : Fn3 := run3 1 2 d_law_is_fraction
noncomputable def d_law_value : S3 :=
    (sSeq (sSet 1 (eCall fn_law_draw (aCons (eVar 0) (aCons (eC (.int 4)) aNil))))
    (sSeq (sIf (tE (eOp fEq (eVar 1) (eC (.int 0)))) (sRet (eCall fn_law_fraction (aCons (eOp fAdd (eOp fSub (eCall fn_law_draw (aCons (eVar 0) (aCons (eOp fSub (eOp fMul (eC (.int 2)) (eOp fPow (eC (.int 10)) (eC (.int 12)))) (eC (.int 1))) aNil))) (eOp fPow (eC (.int 10)) (eC (.int 12)))) (eC (.int 1))) (aCons (eOp fAdd (eC (.int 1)) (eCall fn_law_draw (aCons (eVar 0) (aCons (eOp fSub (eOp fPow (eC (.int 10)) (eC (.int 12))) (eC (.int 1))) aNil)))) aNil)))) sNext)
    (sSeq (sIf (tE (eOp fEq (eVar 1) (eC (.int 1)))) (sRet (eCall fn_law_fraction (aCons (eOp fSub (eCall fn_law_draw (aCons (eVar 0) (aCons (eC (.int 199)) aNil))) (eC (.int 99))) (aCons (eOp fAdd (eC (.int 1)) (eCall fn_law_draw (aCons (eVar 0) (aCons (eC (.int 12)) aNil)))) aNil)))) sNext)
    (sRet (eTup (aCons (eOp fSub (eCall fn_law_draw (aCons (eVar 0) (aCons (eC (.int 9)) aNil))) (eC (.int 4))) (aCons (eC (.int 1)) aNil)))))))
noncomputable def fn_law_value : Fn3 := run3 1 2 d_law_value
noncomputable def d_law_weight : S3 :=
    (sSeq (sSet 1 (eCall fn_law_draw (aCons (eVar 0) (aCons (eC (.int 3)) aNil))))
    (sSeq (sIf (tE (eOp fEq (eVar 1) (eC (.int 0)))) (sRet (eTup (aCons (eC (.int 1)) (aCons (eC (.int 1)) aNil)))) sNext)
    (sSeq (sSet 2 (eOp fIx (eLst (aCons (eC (.int 9)) (aCons (eOp fSub (eOp fPow (eC (.int 10)) (eC (.int 6))) (eC (.int 1))) aNil))) (eOp fSub (eVar 1) (eC (.int 1)))))
    (sRet (eCall fn_law_fraction (aCons (eOp fAdd (eC (.int 1)) (eCall fn_law_draw (aCons (eVar 0) (aCons (eVar 2) aNil)))) (aCons (eOp fAdd (eC (.int 1)) (eCall fn_law_draw (aCons (eVar 0) (aCons (eVar 2) aNil)))) aNil)))))))
noncomputable def fn_law_weight : Fn3 := run3 1 3 d_law_weight
local macro_rules
  | `(tactic| size_fits) => `(tactic| first
    | assumption
    | exact sz0
    | exact sz1
    | (refine Fit.le (by size_fits) ?_; first | decide | omega)
    | (refine Sz.add ?_ ?_ <;> size_fits)
    | (refine Sz.sub ?_ ?_ <;> size_fits)
    | (refine Sz.mul ?_ ?_ <;> size_fits)
    | (refine Sz.neg ?_ <;> size_fits)
    | (refine Sz.abs ?_ <;> size_fits)
    | (refine sz_at0 ?_ _ <;> size_fits))
/-! ## family B: what its laws draw and reckon -/
theorem law_draw {m : Int} {n : Nat} {L : Lh} {Q : D → Lh → Prop} {E : Str → Lh → Prop} (hp : PotAt L n) (h0 : 0 < m) (hm : m < 2 ^ 60)
    (h : ∀ d L', 0 ≤ d → d < m → Grow n L L' → PotAt L' n → Q (.int d) L') : wpR (fn_law_draw [.loc n, .int m] L) Q E :=
  wp_draw (A := 48271) (B := 39373) (M := 2147483647) (M2 := 2147483629) (V := 3) (by decide) (by decide) (by decide) (by decide) (by decide) hp h0 hm h
theorem law_pot {ns : List Int} {k : Nat} {L : Lh} {Q : D → Lh → Prop} {E : Str → Lh → Prop} (hk : k ≤ 1000) (h : ∀ c, PotAt (L ++ [c]) L.length → Q (.loc L.length) (L ++ [c])) : wpR (fn_law_pot [.rol (ns.map D.int), .int k] L) Q E := by
  have key : ∀ c : Int, ∃ p q : Int, (0 ≤ p ∧ 0 ≤ q ∧ q < 4294967296) ∧ (if (c.natAbs : Int) - 1000000000000000000 > 0 then (c.natAbs : Int) - 1000000000000000000 else 0) = p ∧ ((c.natAbs : Int) + 7919 * k + 3).fmod 2147483629 + 1 = q := fun c => by
    have e := Int.fmod_eq_emod_of_nonneg ((c.natAbs : Int) + 7919 * k + 3) (show (0 : Int) ≤ 2147483629 by decide)
    exact ⟨_, _, ⟨by split <;> omega, by omega, by omega⟩, rfl, rfl⟩
  have m1 : CMulX 7919 (k : Int) := cmulS (by omega) (by omega)
  have pw : CPow 10 18 := ⟨by decide, by decide, by decide⟩
  have fin : ∀ c : Int, ∀ p q : Int, (0 ≤ p ∧ 0 ≤ q ∧ q < 4294967296) → wpR (trunc L (.loc L.length) (L ++ [.lst [.int p, .int q]])) Q E := fun c p q hpq => by
    rw [wp_truncN rfl]
    exact h _ ⟨p, q, by simp, hpq⟩
  unfold fn_law_pot d_law_pot
  refine wp_run rfl ?_
  by_cases hlt : k < ns.length
  · obtain ⟨p, q, hpq, e1, e2⟩ := key ns[k]
    have ha : L2.atI (ns.map D.int) (k : Int) = some (.int ns[k]) := by
      rw [atI_some (xs := ns.map D.int) (k := k) (by simpa using hlt)]; simp
    have e1' : (if 1000000000000000000 < (ns[k].natAbs : Int) then (ns[k].natAbs : Int) - 1000000000000000000 else 0) = p := by rw [← e1]; split <;> split <;> omega
    simp [fIx, hlt, ha, abs_if, m1, pw, e2, e1']
    have := fin 0 p q hpq
    simpa using this
  · obtain ⟨p, q, hpq, e1, e2⟩ := key 0
    have e2' : ((7919 * (k : Int)) + 3).fmod 2147483629 + 1 = q := by simpa using e2
    obtain rfl : p = 0 := by rw [← e1]; rfl
    simp [hlt, m1, pw, e2']
    have := fin 0 0 q hpq
    simpa using this
theorem fn_law_fraction_eq {a b : Int} (L : Lh) (hb : b ≠ 0) : fn_law_fraction [.int a, .int b] L = .val (fr (Rat.divInt a b)) L := by
  have hg := gcd_pos (a := a) hb
  have gg : Int.gcd (a.natAbs : Int) (b.natAbs : Int) = Int.gcd a b := by simp [Int.gcd]
  apply wpR.eq
  unfold fn_law_fraction d_law_fraction
  refine wp_run rfl ?_
  simp [abs_if]
  refine wp_while (fun m Γ L' => ∃ x : Int, 0 ≤ x ∧ Γ = [some (.int a), some (.int b), some (.int x), some (.int m)] ∧ L' = L ∧ Int.gcd x m = Int.gcd a b) b.natAbs ⟨a.natAbs, by omega, rfl, rfl, gg⟩ (fun m Γ L' h => ?_)
  obtain ⟨x, hx, rfl, rfl, hgx⟩ := h
  simp
  by_cases hm : m = 0
  · subst hm
    have hx2 : x = (Int.gcd a b : Int) := by rw [← hgx]; simp [Int.gcd]; omega
    subst hx2
    simp
    refine wp_if (fun hb0 => ?_) (fun hb0 => ?_)
    · have e := frac_gcd a b hb (-(Int.gcd a b : Int)) (by rw [if_pos hb0])
      have c2 : Int.gcd a b ≠ 0 := by omega
      simp [c2, e]
    · have e := frac_gcd a b hb (Int.gcd a b : Int) (by rw [if_neg hb0])
      have c2 : Int.gcd a b ≠ 0 := by omega
      simp [c2, e]
  · have hm0 : (0 : Int) < (m : Int) := by omega
    have hnn := Int.emod_nonneg x (show (m : Int) ≠ 0 by omega)
    have hlt := Int.emod_lt_of_pos x hm0
    have e1 : x.fmod (m : Int) = ((x % (m : Int)).toNat : Int) := by
      rw [Int.fmod_eq_emod_of_nonneg _ (by omega), Int.toNat_of_nonneg hnn]
    simp [hm]
    refine ⟨(x % (m : Int)).toNat, by omega, m, by omega, ⟨rfl, e1⟩, ?_⟩
    rw [Int.toNat_of_nonneg hnn, ← gcd_step hx hm0, hgx]
section
variable {p q : Rat}
theorem fn_law_plus_eq (L : Lh) (hp : Fit p) (hq : Fit q) : fn_law_plus [fr p, fr q] L = .val (fr (p + q)) L := by
  have z := fn_law_fraction_eq (a := p.num * q.den + q.num * p.den) L (dens_ne p q)
  rw [rat_add] at z
  apply wpR.eq
  unfold fn_law_plus d_law_plus
  refine wp_run rfl ?_
  simp [hp.1, hp.2, hq.1, hq.2, -fMul, z]
theorem fn_law_less_eq (L : Lh) (hp : Fit p) (hq : Fit q) : fn_law_less [fr p, fr q] L = .val (fr (p - q)) L := by
  have z := fn_law_fraction_eq (a := p.num * q.den - q.num * p.den) L (dens_ne p q)
  rw [rat_sub] at z
  apply wpR.eq
  unfold fn_law_less d_law_less
  refine wp_run rfl ?_
  simp [hp.1, hp.2, hq.1, hq.2, -fMul, z]
theorem fn_law_times_eq (L : Lh) (hp : Fit p) (hq : Fit q) : fn_law_times [fr p, fr q] L = .val (fr (p * q)) L := by
  have z := fn_law_fraction_eq (a := p.num * q.num) L (dens_ne p q)
  rw [rat_mul] at z
  apply wpR.eq
  unfold fn_law_times d_law_times
  refine wp_run rfl ?_
  simp [hp.1, hp.2, hq.1, hq.2, -fMul, z]
theorem fn_law_by_eq (L : Lh) (hp : Fit p) (hq : Fit q) (h0 : q ≠ 0) : fn_law_by [fr p, fr q] L = .val (fr (p / q)) L := by
  have z := fn_law_fraction_eq (a := p.num * q.den) L (Int.mul_ne_zero (den_ne p) (num_ne h0))
  rw [rat_div] at z
  apply wpR.eq
  unfold fn_law_by d_law_by
  refine wp_run rfl ?_
  simp [hp.1, hp.2, hq.1, hq.2, -fMul, z]
theorem fn_law_is_fraction_eq (L : Lh) : fn_law_is_fraction [fr q] L = .val (.bl true) L := by
  have z := fn_law_fraction_eq (a := q.num) L (den_ne q)
  rw [Rat.num_divInt_den] at z
  have hd : 0 < q.den := q.den_pos
  apply wpR.eq
  unfold fn_law_is_fraction d_law_is_fraction
  refine wp_run rfl ?_
  simp
  refine wp_forN (fun i Γ L' => (∃ v, Γ = [some (fr q), v]) ∧ L' = L) ⟨⟨_, rfl⟩, rfl⟩ (fun _ _ _ _ _ => by trivial) (fun i hi Γ L' h => ?_) (fun Γ L' h => ?_)
  · obtain ⟨⟨v, rfl⟩, rfl⟩ := h
    have hi' : i < 2 := hi
    have : i = 0 ∨ i = 1 := by omega
    rcases this with rfl | rfl <;> simp
  · obtain ⟨⟨v, rfl⟩, rfl⟩ := h
    simp [hd, z]
end
/-! ## rising numbers -/
def Rise (xs : List Rat) : Prop := ∀ i j, i < j → j < xs.length → at0 xs i < at0 xs j
/-- no two alike -/
def Dis (xs : List Rat) : Prop := ∀ i j, i < xs.length → j < xs.length → i ≠ j → at0 xs i ≠ at0 xs j
theorem Rise.dis {xs : List Rat} (h : Rise xs) : Dis xs := fun i j hi hj hij e => by
  rcases Nat.lt_or_gt_of_ne hij with q | q
  · have := h i j q hj; rw [e] at this; exact absurd this Rat.lt_irrefl
  · have := h j i q hi; rw [e] at this; exact absurd this Rat.lt_irrefl
theorem at0_snoc_lt {xs : List Rat} {q : Rat} {i : Nat} (h : i < xs.length) : at0 (xs ++ [q]) i = at0 xs i := by
  rw [at0_lt (by simp; omega), at0_lt h, List.getElem_append_left]
theorem at0_snoc_eq {xs : List Rat} {q : Rat} : at0 (xs ++ [q]) xs.length = q := by
  rw [at0_lt (by simp)]; simp
theorem Rise.snoc {xs : List Rat} {q : Rat} (h : Rise xs) (hq : ∀ i, i < xs.length → at0 xs i < q) : Rise (xs ++ [q]) := fun i j hij hj => by
  simp at hj
  by_cases e : j = xs.length
  · subst e; rw [at0_snoc_lt hij, at0_snoc_eq]; exact hq i hij
  · rw [at0_snoc_lt (by omega), at0_snoc_lt (by omega)]; exact h i j hij (by omega)
theorem Rise.nil : Rise [] := fun i j _ h => nomatch h
theorem SzP.snoc {n : Nat} {xs : List Rat} {q : Rat} (h : SzP n xs) (hq : Sz n q) : SzP n (xs ++ [q]) := fun p hp => by
  rcases List.mem_append.mp hp with hp | hp
  · exact h p hp
  · rw [List.mem_singleton.mp hp]; exact hq
theorem atI_3 {α : Type} (x y z w : α) (r : List α) : atI (x :: y :: z :: w :: r) 3 = some w := L2.atI_nat (by simp)
theorem rat_between {w u b : Int} (hb : 0 < b) (h0 : 0 ≤ u) (h1 : u < b) : (w : Rat) ≤ Rat.divInt (w * b + u) b ∧ Rat.divInt (w * b + u) b < ((w + 1 : Int) : Rat) := by
  have hb' : (0 : Rat) < (b : Rat) := by exact_mod_cast hb
  have e : Rat.divInt (w * b + u) b = ((w * b + u : Int) : Rat) / (b : Rat) := Rat.divInt_eq_div _ _
  rw [e]
  have h2 : (0 : Rat) ≤ (u : Rat) := by exact_mod_cast h0
  have h3 : (u : Rat) < (b : Rat) := by exact_mod_cast h1
  constructor
  · refine Rat.not_lt.mp fun z => ?_
    rw [Rat.div_lt_iff hb'] at z
    push_cast at z; grind
  · rw [Rat.div_lt_iff hb']; push_cast; grind
theorem divInt_lt {a b c d : Int} (hb : 0 < b) (hd : 0 < d) (h : a * d < c * b) : Rat.divInt a b < Rat.divInt c d := by
  have hb' : (0 : Rat) < (b : Rat) := by exact_mod_cast hb
  have hd' : (0 : Rat) < (d : Rat) := by exact_mod_cast hd
  rw [Rat.divInt_eq_div, Rat.divInt_eq_div, Rat.div_lt_iff hb']
  have h2 : (a : Rat) * (d : Rat) < (c : Rat) * (b : Rat) := by exact_mod_cast h
  have e : (c : Rat) / (d : Rat) * (b : Rat) = ((c : Rat) * (b : Rat)) / (d : Rat) := by grind
  rw [e]
  refine Rat.not_le.mp fun z => ?_
  have h3 := Rat.mul_le_mul_of_nonneg_right z (Rat.le_of_lt hd')
  have e2 : (c : Rat) * (b : Rat) / (d : Rat) * (d : Rat) = (c : Rat) * (b : Rat) := by grind
  rw [e2] at h3
  grind
/-- one more number at the end -/
theorem rise_step {ps : List Rat} {q : Rat} {u v : Int} (hr : Rise ps) (hb : ∀ i, i < ps.length → at0 ps i < (u : Rat)) (q1 : (u : Rat) ≤ q) (q2 : q < (v : Rat)) : Rise (ps ++ [q]) ∧ ∀ i, i < (ps ++ [q]).length → at0 (ps ++ [q]) i < (v : Rat) := by
  have lq : ∀ i, i < ps.length → at0 ps i < q := fun i hi => by have := hb i hi; grind
  refine ⟨hr.snoc lq, fun i hi => ?_⟩
  simp at hi
  by_cases e : i = ps.length
  · subst e; rw [at0_snoc_eq]; exact q2
  · rw [at0_snoc_lt (by omega)]
    have := lq i (by omega)
    grind
theorem map_snoc {ps : List Rat} {q : Rat} : ps.map fr ++ [fr q] = (ps ++ [q]).map fr := by simp
theorem divInt_1 (i : Int) : Rat.divInt i 1 = (i : Rat) := by rw [Rat.divInt_eq_div]; show (i : Rat) / (1 : Rat) = i; grind
theorem rise_app {a b : List Rat} (ha : Rise a) (hb : Rise b) (h : ∀ i j, i < a.length → j < b.length → at0 a i < at0 b j) : Rise (a ++ b) := by
  intro i j hij hj
  have e : ∀ i, at0 (a ++ b) i = if i < a.length then at0 a i else at0 b (i - a.length) := fun i => by
    unfold at0
    split
    · rename_i h; simp [List.getElem?_append_left h]
    · rename_i h; simp [List.getElem?_append_right (show a.length ≤ i by omega)]
  rw [e, e]
  simp at hj
  split
  · split
    · rename_i h1 h2; exact ha i j hij h2
    · rename_i h1 h2; exact h i _ h1 (by omega)
  · split
    · omega
    · exact hb _ _ (by omega) (by omega)
theorem rat_mk {n : Int} {d : Nat} (hd : d ≠ 0) (hr : n.natAbs.Coprime d) : D.tup [.int n, .int d] = fr (Rat.divInt n d) := (frac_of (a := n) (b := d) (N := n) (Dn := d) (by omega) (by omega) hr rfl).symm
theorem divInt_one_sz {d : Int} {k : Nat} (h0 : 0 < d) (h : d < 2 ^ k) : Sz (k + 1) (Rat.divInt 1 d) := by
  have := sz_divInt (a := 1) (b := d) (n := k + 1) (m := k + 1) (by omega) (by unfold Bd; have := Nat.one_lt_two_pow (n := k + 1) (by omega); simpa using this) (by
    unfold Bd
    have h2 : d.natAbs < 2 ^ k := by
      have : ((2 ^ k : Nat) : Int) = 2 ^ k := by norm_cast
      omega
    exact Nat.lt_of_lt_of_le h2 (Nat.pow_le_pow_right (by decide) (by omega)))
  exact this
theorem fr_one_over {d : Int} (h0 : 0 < d) : D.tup [.int 1, .int d] = fr (Rat.divInt 1 d) := by
  obtain ⟨k, rfl⟩ := Int.eq_ofNat_of_zero_le (Int.le_of_lt h0)
  exact rat_mk (n := 1) (d := k) (by omega) (by simp)
theorem fr_of_int (i : Int) : D.tup [.int i, .int 1] = fr (i : Rat) := (fr_int i).symm
theorem fAdd_loc {L : Lh} {n m : Nat} {xs ys : List D} (h : L[n]? = some (.lst xs)) (h2 : L[m]? = some (.lst ys)) (hl : xs.length + ys.length ≤ 100000) : fAdd (.loc n) (.loc m) L = .val (.loc L.length) (L ++ [.lst (xs ++ ys)]) := by
  simp only [fAdd, h, h2, if_pos hl]
theorem numbers_loop {L0 L : Lh} {n m many : Nat} {way a b S : Int} {v4 : Option D} {P : Po} (hw : 0 ≤ way) (hS : L2.atI [D.int 3, D.int 100000000000, D.int 1, D.int 5] way = some (.int S)) (hS0 : 0 < S) (hS1 : S ≤ 100000000000) (hb0 : 0 < b) (hb1 : b < 2 ^ 44) (ha : a.natAbs < 10 ^ 12) (hm : many ≤ 8) (hp : PotAt L n) (hn : n < L0.length) (g0 : Grow n L0 L) (hL : L0.length ≤ m) (hLm : L[m]? = some (.lst []))
    (h : ∀ ps Γ L', L'[m]? = some (.lst (ps.map fr)) → Grow n L0 L' → PotAt L' n → ps.length = many → Rise ps → SzP 44 ps → (∃ v4 v6, Γ = [some (.loc n), some (.int many), some (.int way), none, v4, some (.int b), v6, some (.loc m)]) → P.nx Γ L') :
    wpS (forL (fun _ => True) (gN 4) (sSeq (sDrop (eMt "list" mAppend (eVar 7) (aCons (eCall fn_law_fraction (aCons (eVar 6) (aCons (eVar 5) aNil))) aNil)))
    (sSet 6 (eOp fAdd (eOp fAdd (eVar 6) (eC (.int 1))) (eCall fn_law_draw (aCons (eVar 0) (aCons (eOp fIx (eLst (aCons (eC (.int 3)) (aCons (eOp fPow (eC (.int 10)) (eC (.int 11))) (aCons (eC (.int 1)) (aCons (eC (.int 5)) aNil))))) (eVar 2)) aNil)))))) (rngD 0 many) [some (.loc n), some (.int many), some (.int way), none, v4, some (.int b), some (.int a), some (.loc m)] L) P := by
  have p11 : CPow 10 11 := ⟨by decide, by decide, by decide⟩
  have hne : m ≠ n := by omega
  refine wp_for (fun k Γ L' => ∃ (ps : List Rat) (at_ : Int), (∃ v4, Γ = [some (.loc n), some (.int many), some (.int way), none, v4, some (.int b), some (.int at_), some (.loc m)]) ∧ L'[m]? = some (.lst (ps.map fr)) ∧ Grow n L0 L' ∧ PotAt L' n ∧ ps.length = k ∧ Rise ps ∧ SzP 44 ps ∧ at_.natAbs ≤ 10 ^ 12 + k * 10 ^ 11 ∧ ∀ i, i < ps.length → at0 ps i < Rat.divInt at_ b)
    ⟨[], a, ⟨_, rfl⟩, hLm, g0, hp, rfl, Rise.nil, szP_nil, by omega, by simp⟩ (fun _ _ _ _ _ => trivial) (fun k hk Γ L1 J hJ hI => ?_) (fun Γ L1 hI => ?_)
  · obtain ⟨ps, at_, ⟨v4, rfl⟩, h1, g1, p1, hl, hr, hs, hab, hlt⟩ := hI
    have hk' : k < many := by simpa using hk
    have hbn : b ≠ 0 := by omega
    simp [h1, fn_law_fraction_eq _ hbn]
    rw [mAppend_eq h1 (by simp; omega)]
    simp [p11, hS, fIx]
    have h3 : (L1.set m (.lst ((ps ++ [Rat.divInt at_ b]).map fr)))[m]? = some (.lst ((ps ++ [Rat.divInt at_ b]).map fr)) := List.getElem?_set_self (lt_of_get h1)
    refine law_draw (p1.set hne).app hS0 (by omega) fun d L2 d0 d1 g2 p2 => ?_
    have e0 : ps.map fr ++ [fr (Rat.divInt at_ b)] = (ps ++ [Rat.divInt at_ b]).map fr := map_snoc
    simp
    refine hJ _ _ ⟨ps ++ [Rat.divInt at_ b], at_ + 1 + d, ⟨_, rfl⟩, ?_, (g1.set hL).trans (Grow.app.trans g2), p2, by simp [hl], ?_⟩
    · rw [e0] at g2
      exact g2.keep (get_app h3) hne
    · have sq := sz_divInt (a := at_) (b := b) (n := 44) (m := 44) (by omega) (by unfold Bd; omega) (by unfold Bd; omega)
      refine ⟨hr.snoc hlt, hs.snoc sq, ?_, fun i hi => ?_⟩
      · have : (k + 1) * 10 ^ 11 = k * 10 ^ 11 + 10 ^ 11 := Nat.succ_mul _ _
        omega
      · have q : Rat.divInt at_ b < Rat.divInt (at_ + 1 + d) b := divInt_lt hb0 hb0 (Int.mul_lt_mul_of_pos_right (by omega) hb0)
        simp at hi
        by_cases e : i = ps.length
        · subst e; rw [at0_snoc_eq]; exact q
        · rw [at0_snoc_lt (by omega)]
          have := hlt i (by omega)
          grind
  · obtain ⟨ps, at_, ⟨v4, rfl⟩, h1, g1, p1, hl, hr, hs, hab, hlt⟩ := hI
    exact h ps _ L1 h1 g1 p1 (by simpa using hl) hr hs ⟨_, _, rfl⟩
local macro_rules
  | `(tactic| size_fits) => `(tactic| first
    | assumption
    | exact sz0
    | exact sz1
    | (refine Fit.le (by size_fits) ?_; first | decide | omega)
    | (refine Sz.add ?_ ?_ <;> size_fits)
    | (refine Sz.sub ?_ ?_ <;> size_fits)
    | (refine Sz.mul ?_ ?_ <;> size_fits)
    | (refine Sz.neg ?_ <;> size_fits)
    | (refine Sz.abs ?_ <;> size_fits)
    | (refine sz_at0 ?_ _ <;> size_fits))
/-! ## levers -/
def apN (xs : List Rat) (k : Nat) : Nat → Rat
  | 0 => 1
  | j + 1 => if j = k then apN xs k j else apN xs k j * (at0 xs k - at0 xs j)
def lev (xs : List Rat) (k : Nat) : Rat := 1 / apN xs k xs.length
def levs (xs : List Rat) : List Rat := (List.range xs.length).map (lev xs)
theorem apN_ne {xs : List Rat} (h : Dis xs) {k : Nat} (hk : k < xs.length) : ∀ j, j ≤ xs.length → apN xs k j ≠ 0
  | 0, _ => by rw [apN]; decide
  | j + 1, hj => by
    have ih := apN_ne h hk j (by omega)
    rw [apN]
    by_cases e : j = k
    · rw [if_pos e]; exact ih
    · rw [if_neg e]
      intro z
      rcases Rat.mul_eq_zero.mp z with z | z
      · exact ih z
      · exact h k j hk (by omega) (Ne.symm e) (by grind)
theorem apN_sz {N : Nat} {xs : List Rat} (h : SzP N xs) (k : Nat) : ∀ j, Sz (j * (2 * N + 3) + 1) (apN xs k j)
  | 0 => by rw [apN]; exact sz1.mono (by omega)
  | j + 1 => by
    have ih := apN_sz h k j
    rw [apN, Nat.succ_mul]
    split
    · exact ih.mono (by omega)
    · exact (ih.mul ((sz_at0 h k).sub (sz_at0 h j))).mono (by omega)
theorem lev_sz {N : Nat} {xs : List Rat} (h : SzP N xs) (hd : Dis xs) {k : Nat} (hk : k < xs.length) : Sz (xs.length * (2 * N + 3) + 2) (lev xs k) := (sz1.div (apN_sz h k _) (apN_ne hd hk _ (Nat.le_refl _))).mono (by omega)
theorem levs_sz {N : Nat} {xs : List Rat} (h : SzP N xs) (hd : Dis xs) : SzP (xs.length * (2 * N + 3) + 2) (levs xs) := fun p hp => by
  obtain ⟨k, hk, rfl⟩ := List.mem_map.mp hp
  exact lev_sz h hd (by simpa using hk)
@[simp] theorem levs_len (xs : List Rat) : (levs xs).length = xs.length := by simp [levs]
theorem levs_at {xs : List Rat} {k : Nat} (hk : k < xs.length) : at0 (levs xs) k = lev xs k := at0_map hk
/-- lists of fractions: a tuple, or a list of the cells -/
theorem SeqF.app {L X : Lh} {ps : List Rat} {x : D} (s : SeqF L ps x) : SeqF (L ++ X) ps x := by
  cases s with
  | tup => exact .tup
  | lst h => exact .lst (get_app h)
theorem SeqF.en {L : Lh} {ps : List Rat} {x : D} (s : SeqF L ps x) : ∃ chk : Lh → Prop, enR x L = .val ⟨enumD (ps.map fr), chk⟩ L ∧ chk L := by
  cases s with
  | tup => exact ⟨_, enR_pol, trivial⟩
  | lst h => exact ⟨_, enR_loc h, h⟩
theorem SeqF.ix {L : Lh} {ps : List Rat} {x : D} {k : Nat} (s : SeqF L ps x) (hk : k < ps.length) : fIx x (.int k) L = .val (fr (at0 ps k)) L := by
  cases s with
  | tup => exact fIx_pol rfl hk
  | lst h => exact fIx_frs h rfl hk
theorem SeqF.len {L : Lh} {ps : List Rat} {x : D} (s : SeqF L ps x) : fLen [x] L = .val (.int ps.length) L := by
  have := s.items
  simp [this]
theorem fn_lever_eq {L : Lh} {N : Nat} {xs : List Rat} {x : D} {k : Nat} (s : SeqF L xs x) (h : SzP N xs) (hd : Dis xs) (hk : k < xs.length) (hs : (xs.length + 1) * (2 * N + 3) + 2 ≤ LIM) : fn_lever [x, .int k] L = .val (fr (lev xs k)) L := by
  obtain ⟨chk, en, c⟩ := s.en
  have ix := s.ix hk
  rw [Nat.succ_mul] at hs
  apply wpR.eq
  unfold fn_lever d_lever
  refine wp_run rfl ?_
  simp [k1, en]
  refine wp_for (fun j Γ L' => (∃ v3 v4, Γ = [some x, some (.int k), some (fr (apN xs k j)), v3, v4]) ∧ L' = L) ⟨⟨_, _, rfl⟩, rfl⟩ (fun _ _ _ _ h => h.2 ▸ c) (fun j hj Γ L' J hJ hI => ?_) (fun Γ L' hI => ?_)
  · obtain ⟨⟨v3, v4, rfl⟩, rfl⟩ := hI
    have hj' : j < xs.length := by simpa using hj
    have ea : at0 xs j = xs[j] := at0_lt hj'
    have sj := apN_sz h k j
    have hm : j * (2 * N + 3) ≤ xs.length * (2 * N + 3) := Nat.mul_le_mul (by omega) (Nat.le_refl _)
    simp only [enumD_get, List.getElem_map, ← ea]
    simp
    by_cases e : j = k
    · subst e
      simp
      exact hJ _ _ ⟨⟨_, _, by rw [apN, if_pos rfl]⟩, rfl⟩
    · have e2 : ¬ ((j : Int) = (k : Int)) := by omega
      have z1 := fn_less_eq L' (Fit.of (sz_at0 h k) (by omega)) (Fit.of (sz_at0 h j) (by omega))
      have z2 := fn_times_eq L' (Fit.of sj (by omega)) (Fit.of ((sz_at0 h k).sub (sz_at0 h j)) (by omega))
      simp [e2, ix, z1, z2, -fIx]
      exact hJ _ _ ⟨⟨_, _, by rw [apN, if_neg e]⟩, rfl⟩
  · obtain ⟨⟨v3, v4, rfl⟩, rfl⟩ := hI
    have z := fn_over_eq L' fit1 (Fit.of (apN_sz h k xs.length) (by omega)) (apN_ne hd hk _ (Nat.le_refl _))
    simp [k1, z, lev]
theorem fn_levers_eq {L : Lh} {N : Nat} {xs : List Rat} {x : D} (s : SeqF L xs x) (h : SzP N xs) (hd : Dis xs) (hl : xs.length ≤ 1000) (hs : (xs.length + 1) * (2 * N + 3) + 2 ≤ LIM) : fn_levers [x] L = .val (.loc L.length) (L ++ [.lst ((levs xs).map fr)]) := by
  have key : wpR (fn_levers [x] L) (fun d L' => d = .loc L.length ∧ L' = L ++ [.lst ((levs xs).map fr)]) noE := by
    unfold fn_levers d_levers
    refine wp_run rfl ?_
    simp [s.len, show xs.length ≤ 1000000 by omega, -fLen]
    refine wp_lcMap (fun k => fr (lev xs k)) (by simp; omega) (fun _ => trivial) (fun i hi acc => ?_) ?_
    · have z := fn_lever_eq (s.app (X := [.lst acc])) h hd (k := i) (by simpa using hi) hs
      simp [z]
    · have e : (List.range (rngD 0 xs.length).length).map (fun k => fr (lev xs k)) = (levs xs).map fr := by simp [levs]
      rw [e]
      simp [encF.clos, -List.map_map]
      rw [wp_truncN (closeds_frs _ _)]
      exact ⟨rfl, rfl⟩
  obtain ⟨d, L', e, rfl, rfl⟩ := key.ex
  exact e
/-- the worths, each times its lever, together -/
def wsN (xs ys : List Rat) : Nat → Rat
  | 0 => 0
  | j + 1 => wsN xs ys j + lev xs j * at0 ys j
def wsum (xs ys : List Rat) : Rat := wsN xs ys xs.length
theorem wsN_sz {N M : Nat} {xs ys : List Rat} (h : SzP N xs) (hy : SzP M ys) (hd : Dis xs) : ∀ j, j ≤ xs.length → Sz (j * (xs.length * (2 * N + 3) + M + 4) + 1) (wsN xs ys j)
  | 0, _ => by rw [wsN]; exact sz0.mono (by omega)
  | j + 1, hj => by
    have ih := wsN_sz h hy hd j (by omega)
    rw [wsN, Nat.succ_mul]
    exact (ih.add ((lev_sz h hd (by omega)).mul (sz_at0 hy j))).mono (by omega)
theorem fn_weighed_eq {L : Lh} {N M n m : Nat} {xs ys : List Rat} (hx : L[n]? = some (.lst (xs.map fr))) (hy0 : L[m]? = some (.lst (ys.map fr))) (h : SzP N xs) (hy : SzP M ys) (hd : Dis xs) (hl : xs.length ≤ 1000) (hly : ys.length = xs.length)
    (hs : (xs.length + 1) * (xs.length * (2 * N + 3) + M + 4) + 2 * N + 10 ≤ LIM) : fn_weighed [.loc n, .loc m] L = .val (fr (wsum xs ys)) L := by
  rw [Nat.succ_mul] at hs
  have lv := fn_levers_eq (.lst hx) h hd hl (by rw [Nat.succ_mul]; omega)
  apply wpR.eq
  unfold fn_weighed d_weighed
  refine wp_run rfl ?_
  simp [k0, lv, -List.map_map]
  generalize hL1 : L ++ [Cell.lst ((levs xs).map fr)] = L1
  have h1 : L1[L.length]? = some (.lst ((levs xs).map fr)) := by rw [← hL1]; simp
  have h2 : L1[m]? = some (.lst (ys.map fr)) := by rw [← hL1]; exact get_app hy0
  simp [zpR_loc h1 h2]
  refine wp_for (fun j Γ L' => (∃ v3 v4, Γ = [some (.loc n), some (.loc m), some (fr (wsN xs ys j)), v3, v4]) ∧ L' = L1) ⟨⟨_, _, rfl⟩, rfl⟩ (fun _ _ _ _ h => h.2 ▸ ⟨h1, h2⟩) (fun j hj Γ L' J hJ hI => ?_) (fun Γ L' hI => ?_)
  · obtain ⟨⟨v3, v4, rfl⟩, rfl⟩ := hI
    have hj' : j < xs.length := by simp at hj; omega
    have ea : at0 ys j = ys[j]'(by omega) := at0_lt (by omega)
    have el : (levs xs)[j]'(by simp; omega) = lev xs j := by simp [levs]
    have sl := lev_sz h hd hj'
    have hm : j * (xs.length * (2 * N + 3) + M + 4) ≤ xs.length * (xs.length * (2 * N + 3) + M + 4) := Nat.mul_le_mul (by omega) (Nat.le_refl _)
    have z1 := fn_times_eq L' (Fit.of sl (by omega)) (Fit.of (sz_at0 hy j) (by omega))
    have z2 := fn_plus_eq L' (Fit.of (wsN_sz h hy hd j (by omega)) (by omega)) (Fit.of (sl.mul (sz_at0 hy j)) (by omega))
    simp only [zipD_get, List.getElem_map, ← ea, el]
    simp [z1, z2]
    exact hJ _ _ ⟨⟨_, _, rfl⟩, rfl⟩
  · obtain ⟨⟨v3, v4, rfl⟩, rfl⟩ := hI
    have e : (zipD ((levs xs).map fr) (ys.map fr)).length = xs.length := by simp; omega
    simp only [e]
    simp [← hL1, wsum]
/-! ## sums -/
def sumN (f : Nat → Rat) : Nat → Rat
  | 0 => 0
  | n + 1 => sumN f n + f n
theorem sumN_congr {f g : Nat → Rat} : ∀ {n : Nat}, (∀ k, k < n → f k = g k) → sumN f n = sumN g n
  | 0, _ => rfl
  | n + 1, h => by rw [sumN, sumN, sumN_congr fun k hk => h k (by omega), h n (by omega)]
theorem sumN_add (f g : Nat → Rat) : ∀ n, sumN (fun k => f k + g k) n = sumN f n + sumN g n
  | 0 => by rw [sumN, sumN, sumN]; grind
  | n + 1 => by rw [sumN, sumN, sumN, sumN_add f g n]; grind
theorem sumN_sub (f g : Nat → Rat) : ∀ n, sumN (fun k => f k - g k) n = sumN f n - sumN g n
  | 0 => by rw [sumN, sumN, sumN]; grind
  | n + 1 => by rw [sumN, sumN, sumN, sumN_sub f g n]; grind
theorem sumN_mul (c : Rat) (f : Nat → Rat) : ∀ n, sumN (fun k => c * f k) n = c * sumN f n
  | 0 => by rw [sumN, sumN]; grind
  | n + 1 => by rw [sumN, sumN, sumN_mul c f n]; grind
theorem sumN_zero : ∀ n, sumN (fun _ => 0) n = 0
  | 0 => rfl
  | n + 1 => by rw [sumN, sumN_zero n]; grind
theorem sumN_le {f g : Nat → Rat} : ∀ {n : Nat}, (∀ k, k < n → f k ≤ g k) → sumN f n ≤ sumN g n
  | 0, _ => Rat.le_refl
  | n + 1, h => by
    have h1 := sumN_le (n := n) fun k hk => h k (by omega)
    have h2 := h n (by omega)
    rw [sumN, sumN]; grind
theorem sumN_lt {f g : Nat → Rat} {n j : Nat} (h : ∀ k, k < n → f k ≤ g k) (hj : j < n) (hs : f j < g j) : sumN f n < sumN g n := by
  induction n with
  | zero => omega
  | succ n ih =>
    rw [sumN, sumN]
    by_cases e : j = n
    · subst e
      have h1 := sumN_le (n := j) fun k hk => h k (by omega)
      grind
    · have h1 := ih (fun k hk => h k (by omega)) (by omega)
      have h2 := h n (by omega)
      grind
theorem sumN_pos {f : Nat → Rat} {n : Nat} (h : ∀ k, k < n → 0 < f k) (hn : 0 < n) : 0 < sumN f n := by
  have := sumN_lt (f := fun _ => 0) (g := f) (j := 0) (n := n) (fun k hk => Rat.le_of_lt (h k hk)) hn (h 0 hn)
  rwa [sumN_zero] at this
theorem sumN_nonneg {f : Nat → Rat} {n : Nat} (h : ∀ k, k < n → 0 ≤ f k) : 0 ≤ sumN f n := by
  have := sumN_le (f := fun _ => 0) (g := f) (n := n) h
  rwa [sumN_zero] at this
/-- one term apart -/
theorem sumN_one {f : Nat → Rat} {n j : Nat} (hj : j < n) (h : ∀ k, k < n → k ≠ j → f k = 0) : sumN f n = f j := by
  induction n with
  | zero => omega
  | succ n ih =>
    rw [sumN]
    by_cases e : j = n
    · subst e
      rw [sumN_congr (g := fun _ => 0) (fun k hk => h k (by omega) (by omega)), sumN_zero]; grind
    · rw [ih (by omega) (fun k hk => h k (by omega)), h n (by omega) (Ne.symm e)]; grind
theorem sumN_sz {b : Nat} {f : Nat → Rat} : ∀ {n : Nat}, (∀ k, k < n → Sz b (f k)) → Sz (n * (b + 1) + 1) (sumN f n)
  | 0, _ => by rw [sumN]; exact sz0.mono (by omega)
  | n + 1, h => by
    have ih := sumN_sz (n := n) fun k hk => h k (by omega)
    rw [sumN, Nat.succ_mul]
    exact (ih.add (h n (by omega))).mono (by omega)
theorem sum8 {n b c : Nat} (hn : n ≤ 8) (h : 8 * b + 1 ≤ c) : n * b + 1 ≤ c := by
  have := Nat.mul_le_mul hn (Nat.le_refl b); omega
/-! ## products of roots -/
/-- ps times (x less a) -/
def mulLin (ps : List Rat) (a : Rat) : List Rat := (List.range (ps.length + 1)).map fun k => (if k = 0 then 0 else at0 ps (k - 1)) - a * at0 ps k
@[simp] theorem mulLin_len (ps : List Rat) (a : Rat) : (mulLin ps a).length = ps.length + 1 := by simp [mulLin]
theorem at0_mulLin (ps : List Rat) (a : Rat) (k : Nat) : at0 (mulLin ps a) k = (if k = 0 then 0 else at0 ps (k - 1)) - a * at0 ps k := by
  by_cases h : k < ps.length + 1
  · exact at0_map h
  · rw [at0_ge (by simp; omega), at0_ge (ps := ps) (k := k) (by omega), at0_ge (ps := ps) (k := k - 1) (by omega)]
    split <;> grind
theorem evp_mulLin (ps : List Rat) (a x : Rat) : ∀ n, evp (mulLin ps a) x (n + 1) = evp ps x n * (x - a) - a * (at0 ps n * x ^ n)
  | 0 => by
    rw [evp, evp, evp, at0_mulLin, if_pos rfl]
    rw [Rat.pow_zero]; grind
  | n + 1 => by
    rw [evp, evp_mulLin ps a x n, at0_mulLin, if_neg (by omega), evp, Rat.pow_succ, Nat.add_sub_cancel]; grind
theorem ev_mulLin (ps : List Rat) (a x : Rat) : ev (mulLin ps a) x = ev ps x * (x - a) := by
  rw [← evp_len, mulLin_len, evp_mulLin, evp_len, at0_ge (Nat.le_refl _)]; grind
def rootsP : List Rat → List Rat
  | [] => [1]
  | a :: r => mulLin (rootsP r) a
theorem rootsP_len : ∀ rs, (rootsP rs).length = rs.length + 1
  | [] => rfl
  | a :: r => by rw [rootsP, mulLin_len, rootsP_len r]; rfl
theorem rootsP_top : ∀ rs, at0 (rootsP rs) rs.length = 1
  | [] => rfl
  | a :: r => by
    rw [rootsP, List.length_cons, at0_mulLin, if_neg (by omega), Nat.add_sub_cancel, rootsP_top r, at0_ge (by rw [rootsP_len]; omega)]; grind
theorem ev_rootsP_mem {rs : List Rat} {a : Rat} (h : a ∈ rs) : ev (rootsP rs) a = 0 := by
  induction rs with
  | nil => simp at h
  | cons b r ih =>
    rw [rootsP, ev_mulLin]
    rcases List.mem_cons.mp h with rfl | h
    · grind
    · rw [ih h]; grind
theorem ev_rootsP_ne {rs : List Rat} {a : Rat} (h : a ∉ rs) : ev (rootsP rs) a ≠ 0 := by
  induction rs with
  | nil => rw [rootsP, ev_cons, ev_nil]; grind
  | cons b r ih =>
    rw [rootsP, ev_mulLin]
    simp at h
    intro z
    rcases Rat.mul_eq_zero.mp z with z | z
    · exact ih h.2 z
    · exact h.1 (by grind)
/-! ## the numbers but one -/
def butK (xs : List Rat) (k : Nat) : Nat → List Rat
  | 0 => []
  | j + 1 => if j = k then butK xs k j else at0 xs j :: butK xs k j
theorem ev_but (xs : List Rat) (k : Nat) : ∀ j, ev (rootsP (butK xs k j)) (at0 xs k) = apN xs k j
  | 0 => by rw [butK, rootsP, ev_cons, ev_nil, apN]; grind
  | j + 1 => by
    rw [butK, apN]
    by_cases e : j = k
    · rw [if_pos e, if_pos e, ev_but xs k j]
    · rw [if_neg e, if_neg e, rootsP, ev_mulLin, ev_but xs k j]
theorem butK_len (xs : List Rat) (k : Nat) : ∀ j, (butK xs k j).length = if k < j then j - 1 else j
  | 0 => by simp [butK]
  | j + 1 => by
    rw [butK]
    have ih := butK_len xs k j
    by_cases e : j = k
    · rw [if_pos e, ih]; split <;> split <;> omega
    · rw [if_neg e, List.length_cons, ih]; split <;> split <;> omega
theorem mem_butK {xs : List Rat} {k i : Nat} (hik : i ≠ k) : ∀ {j}, i < j → at0 xs i ∈ butK xs k j
  | j + 1, h => by
    rw [butK]
    by_cases e : j = k
    · rw [if_pos e]; exact mem_butK hik (by omega)
    · rw [if_neg e]
      by_cases e2 : i = j
      · subst e2; simp
      · exact List.mem_cons_of_mem _ (mem_butK hik (by omega))
/-- Lagrange's polynomial, j terms -/
def lagP (xs ys : List Rat) (n : Nat) : Nat → List Rat
  | 0 => List.replicate n 0
  | j + 1 => (List.range n).map fun i => at0 (lagP xs ys n j) i + lev xs j * at0 ys j * at0 (rootsP (butK xs j xs.length)) i
theorem lagP_len (xs ys : List Rat) (n : Nat) : ∀ j, (lagP xs ys n j).length = n
  | 0 => by simp [lagP]
  | j + 1 => by simp [lagP]
theorem lagP_at (xs ys : List Rat) {n i : Nat} (hi : i < n) : ∀ j, at0 (lagP xs ys n j) i = sumN (fun j => lev xs j * at0 ys j * at0 (rootsP (butK xs j xs.length)) i) j
  | 0 => by rw [lagP, at0_lt (by simpa using hi), sumN]; simp
  | j + 1 => by rw [lagP, at0_map hi, sumN, lagP_at xs ys hi j]
theorem evp_lin {a b c : List Rat} {u x : Rat} : ∀ {N : Nat}, (∀ k, k < N → at0 c k = at0 a k + u * at0 b k) → evp c x N = evp a x N + u * evp b x N
  | 0, _ => by rw [evp, evp, evp]; grind
  | N + 1, h => by rw [evp, evp, evp, evp_lin fun k hk => h k (by omega), h N (by omega)]; grind
theorem ev_lagP (xs ys : List Rat) {n : Nat} (hn : xs.length ≤ n) (x : Rat) : ∀ j, j ≤ xs.length → ev (lagP xs ys n j) x = sumN (fun j => lev xs j * at0 ys j * ev (rootsP (butK xs j xs.length)) x) j
  | 0, _ => by
    rw [lagP, sumN, ← evp_len, evp_zero]
  | j + 1, hj => by
    have hb : (rootsP (butK xs j xs.length)).length ≤ n := by
      rw [rootsP_len, butK_len, if_pos (by omega)]; omega
    rw [sumN, ← ev_lagP xs ys hn x j (by omega), lagP, ← evp_len, List.length_map, List.length_range]
    rw [evp_lin (a := lagP xs ys n j) (b := rootsP (butK xs j xs.length)) (u := lev xs j * at0 ys j) (fun k hk => at0_map hk), evp_ge' hb, evp_ge' (by rw [lagP_len]; exact Nat.le_refl _)]
theorem Dis.nodup {xs : List Rat} (h : Dis xs) : xs.Nodup := by
  rw [List.nodup_iff_pairwise_ne, List.pairwise_iff_getElem]
  intro i j hi hj hij
  have := h i j hi hj (by omega)
  rwa [at0_lt hi, at0_lt hj] at this
/-- Lagrange passes -/
theorem lagP_pass {xs ys : List Rat} (hd : Dis xs) {k : Nat} (hk : k < xs.length) : ev (lagP xs ys xs.length xs.length) (at0 xs k) = at0 ys k := by
  rw [ev_lagP xs ys (Nat.le_refl _) _ _ (Nat.le_refl _), sumN_one hk (fun j hj hjk => by rw [ev_rootsP_mem (mem_butK (Ne.symm hjk) hk)]; grind), ev_but]
  have h0 := apN_ne hd hk xs.length (Nat.le_refl _)
  unfold lev
  grind
theorem wsN_sum (xs ys : List Rat) : ∀ j, wsN xs ys j = sumN (fun j => lev xs j * at0 ys j) j
  | 0 => rfl
  | j + 1 => by rw [wsN, sumN, wsN_sum xs ys j]
theorem wsum_sum (xs ys : List Rat) : wsum xs ys = sumN (fun j => lev xs j * at0 ys j) xs.length := wsN_sum xs ys _
theorem lagP_top {xs ys : List Rat} (h : 0 < xs.length) : at0 (lagP xs ys xs.length xs.length) (xs.length - 1) = wsum xs ys := by
  rw [lagP_at xs ys (by omega), wsum_sum]
  refine sumN_congr fun j hj => ?_
  have e : (butK xs j xs.length).length = xs.length - 1 := by rw [butK_len, if_pos hj]
  have := rootsP_top (butK xs j xs.length)
  rw [e] at this
  rw [this]; grind
theorem at0_trim : ∀ (ps : List Rat) (k : Nat), at0 (trim ps) k = at0 ps k
  | [], _ => rfl
  | c :: r, k => by
    have ih := at0_trim r
    rw [trim]
    split
    · rename_i e
      have z : ∀ j, at0 r j = 0 := fun j => by rw [← ih j, e]; rfl
      split
      · rename_i h0
        cases k with
        | zero => rw [at0_cons_zero, h0]; rfl
        | succ k => rw [at0_cons_succ, z]; rfl
      · cases k with
        | zero => rfl
        | succ k => rw [at0_cons_succ, at0_cons_succ, z]; rfl
    · rename_i d s e
      cases k with
      | zero => rfl
      | succ k => rw [at0_cons_succ, at0_cons_succ, ← ih k, e]
/-- the worths of a polynomial, weighed: its fraction at the last place -/
theorem wsum_ev {xs ps ys : List Rat} (hd : Dis xs) (hl : ps.length ≤ xs.length) (h0 : 0 < xs.length) (hy : ∀ k, k < xs.length → at0 ys k = ev ps (at0 xs k)) : wsum xs ys = at0 ps (xs.length - 1) := by
  have e : trim ps = trim (lagP xs ys xs.length xs.length) := by
    refine ev_ext_at hd.nodup hl (by rw [lagP_len]; exact Nat.le_refl _) fun x hx => ?_
    obtain ⟨k, hk, rfl⟩ := List.mem_iff_getElem.mp hx
    rw [← at0_lt hk, lagP_pass hd hk, hy k hk]
  rw [← lagP_top h0, ← at0_trim, ← e, at0_trim]
theorem rat_sides {q : Rat} (h : q ≠ 0) : q < 0 ∨ 0 < q := by
  by_cases h1 : 0 < q
  · exact .inr h1
  · exact .inl (by grind)
/-! ## signs -/
def sg (k : Nat) : Rat := if k % 2 = 0 then 1 else -1
theorem sg_succ (k : Nat) : sg (k + 1) = - sg k := by
  unfold sg
  rcases Nat.mod_two_eq_zero_or_one k with h | h
  · rw [if_neg (by omega), if_pos h]
  · rw [if_pos (by omega), if_neg (by omega)]; grind
theorem sg_sq (k : Nat) : sg k * sg k = 1 := by unfold sg; split <;> grind
theorem sg_add (j k : Nat) : sg (j + k) = sg j * sg k := by
  induction k with
  | zero => rw [Nat.add_zero]; unfold sg; simp; try grind
  | succ k ih => rw [← Nat.add_assoc, sg_succ, sg_succ, ih]; grind
/-- of rising numbers: above 0 by turns, the last one above -/
theorem apN_sign {xs : List Rat} (hr : Rise xs) {k : Nat} (hk : k < xs.length) : ∀ j, j ≤ xs.length → 0 < apN xs k j * (if j ≤ k then 1 else sg (j - 1 - k))
  | 0, _ => by rw [apN, if_pos (by omega)]; grind
  | j + 1, hj => by
    have ih := apN_sign hr hk j (by omega)
    rw [apN]
    by_cases e : j = k
    · subst e
      rw [if_pos rfl, if_neg (by omega), show j + 1 - 1 - j = 0 by omega]
      rw [if_pos (Nat.le_refl _)] at ih
      have : sg 0 = 1 := rfl
      rw [this]; exact ih
    · rw [if_neg e]
      by_cases h2 : j + 1 ≤ k
      · rw [if_pos h2]
        rw [if_pos (by omega)] at ih
        have h3 := hr j k (by omega) hk
        have h4 : 0 < apN xs k j := by grind
        have h5 : 0 < at0 xs k - at0 xs j := by grind
        have := Rat.mul_pos h4 h5
        grind
      · rw [if_neg h2]
        rw [if_neg (by omega)] at ih
        have h3 := hr k j (by omega) (by omega)
        have h5 : 0 < at0 xs j - at0 xs k := by grind
        have := Rat.mul_pos ih h5
        have e2 : j + 1 - 1 - k = (j - 1 - k) + 1 := by omega
        rw [e2, sg_succ]
        grind
theorem lev_sign {xs : List Rat} (hr : Rise xs) {k : Nat} (hk : k < xs.length) : 0 < lev xs k * sg (xs.length - 1 - k) := by
  have h := apN_sign hr hk xs.length (Nat.le_refl _)
  rw [if_neg (by omega)] at h
  have h0 := apN_ne hr.dis hk xs.length (Nat.le_refl _)
  unfold lev
  generalize apN xs k xs.length = a at *
  have hs := sg_sq (xs.length - 1 - k)
  generalize sg (xs.length - 1 - k) = s at *
  have e : 1 / a * s = (a * s) * ((1 / a) * (1 / a)) := by grind
  rw [e]
  refine Rat.mul_pos h ?_
  have : (1 / a) ≠ 0 := fun z => by
    have e2 : 1 / a * a = 1 := by grind
    rw [z] at e2; grind
  rcases rat_sides this with q | q
  · have := Rat.mul_pos (show 0 < -(1 / a) by grind) (show 0 < -(1 / a) by grind)
    grind
  · exact Rat.mul_pos q q
theorem rabs_nonneg (q : Rat) : 0 ≤ rabs q := by unfold rabs; split <;> grind
theorem rabs_mul_sg (q : Rat) (k : Nat) (h : 0 < q * sg k) : rabs q = q * sg k := by
  unfold rabs sg at *
  split <;> split at h <;> rename_i a b <;> simp only [b, if_true, if_false] at * <;> grind
theorem lev_abs {xs : List Rat} (hr : Rise xs) {k : Nat} (hk : k < xs.length) : rabs (lev xs k) = lev xs k * sg (xs.length - 1 - k) := rabs_mul_sg _ _ (lev_sign hr hk)
/-! ## through pairs -/
def prD (p : Rat × Rat) : D := .tup [fr p.1, fr p.2]
def pxs (ps : List (Rat × Rat)) : List Rat := ps.map (·.1)
def pys (ps : List (Rat × Rat)) : List Rat := ps.map (·.2)
@[simp] theorem pxs_len (ps : List (Rat × Rat)) : (pxs ps).length = ps.length := by simp [pxs]
@[simp] theorem pys_len (ps : List (Rat × Rat)) : (pys ps).length = ps.length := by simp [pys]
theorem pxs_at {ps : List (Rat × Rat)} {k : Nat} (h : k < ps.length) : at0 (pxs ps) k = ps[k].1 := by rw [at0_lt (by simpa using h)]; simp [pxs]
theorem pys_at {ps : List (Rat × Rat)} {k : Nat} (h : k < ps.length) : at0 (pys ps) k = ps[k].2 := by rw [at0_lt (by simpa using h)]; simp [pys]
def thr (ps : List (Rat × Rat)) : Nat → List Rat × List Rat
  | 0 => ([], [1])
  | i + 1 => (psum (thr ps i).1 (pscale (thr ps i).2 ((at0 (pys ps) i - ev (thr ps i).1 (at0 (pxs ps) i)) / ev (thr ps i).2 (at0 (pxs ps) i))), pmul (thr ps i).2 [-(at0 (pxs ps) i), 1])
def through (ps : List (Rat × Rat)) : List Rat := (thr ps ps.length).1
/-- the first numbers, the last of them first -/
def revN (xs : List Rat) : Nat → List Rat
  | 0 => []
  | i + 1 => at0 xs i :: revN xs i
theorem revN_len (xs : List Rat) : ∀ i, (revN xs i).length = i
  | 0 => rfl
  | i + 1 => by rw [revN, List.length_cons, revN_len xs i]
theorem mem_revN {xs : List Rat} {a : Rat} : ∀ {i}, a ∈ revN xs i ↔ ∃ j, j < i ∧ a = at0 xs j
  | 0 => by simp [revN]
  | i + 1 => by
    rw [revN, List.mem_cons, mem_revN]
    constructor
    · rintro (h | ⟨j, h1, h2⟩)
      · exact ⟨i, by omega, h⟩
      · exact ⟨j, by omega, h2⟩
    · rintro ⟨j, h1, h2⟩
      by_cases e : j = i
      · subst e; exact .inl h2
      · exact .inr ⟨j, by omega, h2⟩
theorem trim_one : trim [1] = [1] := by rw [trim]; simp [trim]
theorem trim_of_top {ps : List Rat} {n : Nat} (hl : ps.length = n + 1) (h : at0 ps n ≠ 0) : trim ps = ps := by
  rcases List.eq_nil_or_concat ps with rfl | ⟨r, q, rfl⟩
  · simp at hl
  · rw [List.concat_eq_append] at *
    have hr : r.length = n := by simpa using hl
    subst hr
    exact trim_snoc (by rwa [at0_lt (by simp), show (r ++ [q])[r.length] = q by simp] at h) r
theorem trim_rootsP (rs : List Rat) : trim (rootsP rs) = rootsP rs := trim_of_top (rootsP_len rs) (by rw [rootsP_top]; decide)
theorem thr_roots (ps : List (Rat × Rat)) : ∀ i, (thr ps i).2 = rootsP (revN (pxs ps) i)
  | 0 => rfl
  | i + 1 => by
    have e : ∀ x, ev (thr ps (i + 1)).2 x = ev (rootsP (revN (pxs ps) (i + 1))) x := fun x => by
      rw [thr, revN, rootsP, ev_mulLin, ev_pmul, thr_roots ps i, ev_cons, ev_cons, ev_nil]; grind
    have h := ev_ext e
    rw [trim_rootsP] at h
    rw [← h, thr]
    exact (trim_trim _).symm
theorem trim_thr (ps : List (Rat × Rat)) : ∀ i, trim (thr ps i).1 = (thr ps i).1
  | 0 => rfl
  | i + 1 => by rw [thr]; exact trim_trim _
theorem psum_len (a b : List Rat) : (psum a b).length ≤ max a.length b.length := by
  have := trim_len ((List.range (max a.length b.length)).map fun k => at0 a k + at0 b k)
  simpa [psum] using this
theorem pscale_len (a : List Rat) (g : Rat) : (pscale a g).length ≤ a.length := by
  have := trim_len (a.map (· * g)); simpa [pscale] using this
theorem thr_len (ps : List (Rat × Rat)) : ∀ i, (thr ps i).1.length ≤ i
  | 0 => by simp [thr]
  | i + 1 => by
    have ih := thr_len ps i
    have h1 := psum_len (thr ps i).1 (pscale (thr ps i).2 ((at0 (pys ps) i - ev (thr ps i).1 (at0 (pxs ps) i)) / ev (thr ps i).2 (at0 (pxs ps) i)))
    have h2 := pscale_len (thr ps i).2 ((at0 (pys ps) i - ev (thr ps i).1 (at0 (pxs ps) i)) / ev (thr ps i).2 (at0 (pxs ps) i))
    have h3 : (thr ps i).2.length = i + 1 := by rw [thr_roots, rootsP_len, revN_len]
    rw [thr]
    show (psum _ _).length ≤ _
    omega
/-- the first i numbers are unlike -/
def DisN (xs : List Rat) (i : Nat) : Prop := ∀ a b, a < i → b < i → a ≠ b → at0 xs a ≠ at0 xs b
theorem DisN.mono {xs : List Rat} {i j : Nat} (h : DisN xs i) (hj : j ≤ i) : DisN xs j := fun a b ha hb => h a b (by omega) (by omega)
theorem steep_ne {ps : List (Rat × Rat)} {i : Nat} (hd : DisN (pxs ps) (i + 1)) : ev (thr ps i).2 (at0 (pxs ps) i) ≠ 0 := by
  rw [thr_roots]
  refine ev_rootsP_ne fun h => ?_
  obtain ⟨j, h1, h2⟩ := mem_revN.mp h
  exact hd j i (by omega) (by omega) (by omega) h2.symm
theorem thr_pass {ps : List (Rat × Rat)} : ∀ {i}, DisN (pxs ps) i → ∀ j, j < i → ev (thr ps i).1 (at0 (pxs ps) j) = at0 (pys ps) j
  | i + 1, hd, j, hj => by
    rw [thr, ev_psum, ev_pscale]
    by_cases e : j = i
    · subst e
      have h0 := steep_ne hd
      grind
    · have h1 := thr_pass (hd.mono (show i ≤ i + 1 by omega)) j (by omega)
      have h2 : ev (thr ps i).2 (at0 (pxs ps) j) = 0 := by
        rw [thr_roots]; exact ev_rootsP_mem (mem_revN.mpr ⟨j, by omega, rfl⟩)
      rw [h1, h2]; grind
/-- .. it is Lagrange's -/
theorem at0_take {xs : List Rat} {i k : Nat} (h : k < i) : at0 (xs.take i) k = at0 xs k := by
  unfold at0; simp [h]
theorem thr_lag {ps : List (Rat × Rat)} {i : Nat} (hd : DisN (pxs ps) i) (hi : i ≤ ps.length) : (thr ps i).1 = trim (lagP ((pxs ps).take i) ((pys ps).take i) i i) := by
  have hl : ((pxs ps).take i).length = i := by simp; omega
  have hd2 : Dis ((pxs ps).take i) := fun a b ha hb hab => by
    rw [hl] at ha hb
    rw [at0_take ha, at0_take hb]; exact hd a b ha hb hab
  rw [← trim_thr]
  refine ev_ext_at hd2.nodup (by rw [hl]; exact thr_len ps i) (by rw [hl, lagP_len]; exact Nat.le_refl _) fun x hx => ?_
  obtain ⟨k, hk, rfl⟩ := List.mem_iff_getElem.mp hx
  have hk' : k < i := by rw [hl] at hk; exact hk
  rw [← at0_lt hk]
  have := lagP_pass (ys := (pys ps).take i) hd2 hk
  rw [hl] at this
  rw [this, at0_take hk', at0_take hk']
  exact thr_pass hd k hk'
/-! sizes -/
theorem rootsP_sz {N : Nat} : ∀ {rs : List Rat}, SzP N rs → ∃ s, SzP s (rootsP rs) ∧ s + (N + 3) ≤ 2 ^ rs.length * (N + 4)
  | [], _ => ⟨1, szP_cons sz1 szP_nil, by simp; omega⟩
  | a :: r, h => by
    obtain ⟨s, h1, h2⟩ := rootsP_sz (rs := r) fun p hp => h p (by simp [hp])
    have ha : Sz N a := h a (by simp)
    refine ⟨2 * s + (N + 3), SzP.of_at fun k => ?_, ?_⟩
    · rw [rootsP, at0_mulLin]
      have s1 : Sz (s + 1) (if k = 0 then 0 else at0 (rootsP r) (k - 1)) := by
        split
        · exact sz0.mono (by omega)
        · exact sz_at0 h1 _
      exact (s1.sub (ha.mul (sz_at0 h1 k))).mono (by omega)
    · rw [List.length_cons, Nat.pow_succ, Nat.mul_comm (2 ^ r.length) 2, Nat.mul_assoc]; omega
theorem pow_le2 {a b : Nat} (h : a ≤ b) : 2 ^ a ≤ 2 ^ b := Nat.pow_le_pow_right (by decide) h
theorem rootsP_sz7 {N : Nat} {rs : List Rat} (h : SzP N rs) (hl : rs.length ≤ 7) : SzP (128 * N + 512) (rootsP rs) := by
  obtain ⟨s, h1, h2⟩ := rootsP_sz h
  have := Nat.mul_le_mul (pow_le2 hl) (Nat.le_refl (N + 4))
  exact h1.mono (by omega)
theorem SzP.take {N i : Nat} {ps : List Rat} (h : SzP N ps) : SzP N (ps.take i) := fun p hp => h p (List.mem_of_mem_take hp)
theorem revN_sz {N : Nat} {xs : List Rat} (h : SzP N xs) {i : Nat} (hi : i ≤ xs.length) : SzP N (revN xs i) := fun p hp => by
  obtain ⟨j, h1, rfl⟩ := mem_revN.mp hp
  rw [at0_lt (by omega)]; exact h _ (List.getElem_mem _)
theorem mem_but {xs : List Rat} {k : Nat} : ∀ {j : Nat} {p : Rat}, j ≤ xs.length → p ∈ butK xs k j → p ∈ xs
  | 0, p, _, h => by simp [butK] at h
  | j + 1, p, hj, h => by
    rw [butK] at h
    split at h
    · exact mem_but (by omega) h
    · rcases List.mem_cons.mp h with rfl | h
      · rw [at0_lt (by omega)]; exact List.getElem_mem _
      · exact mem_but (by omega) h
theorem but_sz {N : Nat} {xs : List Rat} (h : SzP N xs) (k : Nat) : SzP N (butK xs k xs.length) := fun p hp => h p (mem_but (Nat.le_refl _) hp)
theorem lagP_sz {N M n : Nat} {xs ys : List Rat} (h : SzP N xs) (hy : SzP M ys) (hd : Dis xs) (hl : xs.length ≤ 8) (hn : n = xs.length) : SzP (1152 * N + 8 * M + 4400) (lagP xs ys n xs.length) := by
  subst hn
  refine SzP.of_at fun i => ?_
  by_cases hi : i < xs.length
  · rw [lagP_at xs ys hi]
    refine (sumN_sz (b := 144 * N + M + 545) fun k hk => ?_).mono (sum8 hl (by omega))
    have h1 := lev_sz h hd hk
    have hm := Nat.mul_le_mul hl (Nat.le_refl (2 * N + 3))
    have h2 := rootsP_sz7 (but_sz h k) (by rw [butK_len, if_pos hk]; omega)
    exact ((h1.mul (sz_at0 hy k)).mul (sz_at0 h2 i)).mono (by omega)
  · rw [at0_ge (by rw [lagP_len]; omega)]; exact sz0.mono (by omega)
theorem thr_sz {N M : Nat} {ps : List (Rat × Rat)} (h : SzP N (pxs ps)) (hy : SzP M (pys ps)) {i : Nat} (hd : DisN (pxs ps) i) (hi : i ≤ ps.length) (hl : ps.length ≤ 8) : SzP (1152 * N + 8 * M + 4400) (thr ps i).1 := by
  have hli : ((pxs ps).take i).length = i := by simp; omega
  have hd2 : Dis ((pxs ps).take i) := fun a b ha hb hab => by
    rw [hli] at ha hb
    rw [at0_take ha, at0_take hb]; exact hd a b ha hb hab
  rw [thr_lag hd hi]
  have := lagP_sz (n := i) (h.take (i := i)) (hy.take (i := i)) hd2 (by omega) hli.symm
  rw [hli] at this
  exact this.trim
/-! ## references -/
def xsO (t : List Spo) : List Rat := t.map (·.x)
def ysO (t : List Spo) : List Rat := t.map (·.y)
def wsO (t : List Spo) : List Rat := t.map (·.w)
@[simp] theorem xsO_len (t : List Spo) : (xsO t).length = t.length := by simp [xsO]
@[simp] theorem ysO_len (t : List Spo) : (ysO t).length = t.length := by simp [ysO]
@[simp] theorem wsO_len (t : List Spo) : (wsO t).length = t.length := by simp [wsO]
theorem xsO_at {t : List Spo} {k : Nat} (h : k < t.length) : at0 (xsO t) k = t[k].x := by rw [at0_lt (by simpa using h)]; simp [xsO]
theorem ysO_at {t : List Spo} {k : Nat} (h : k < t.length) : at0 (ysO t) k = t[k].y := by rw [at0_lt (by simpa using h)]; simp [ysO]
theorem wsO_at {t : List Spo} {k : Nat} (h : k < t.length) : at0 (wsO t) k = t[k].w := by rw [at0_lt (by simpa using h)]; simp [wsO]
/-- sizes of spots -/
def SzT (N : Nat) (t : List Spo) : Prop := ∀ s ∈ t, Sz N s.x ∧ Sz N s.y ∧ Sz N s.w
/-- weights above 0 -/
def WPos (t : List Spo) : Prop := ∀ s ∈ t, 0 < s.w
theorem SzT.xs {N : Nat} {t : List Spo} (h : SzT N t) : SzP N (xsO t) := fun p hp => by
  obtain ⟨s, hs, rfl⟩ := List.mem_map.mp hp; exact (h s hs).1
theorem SzT.ys {N : Nat} {t : List Spo} (h : SzT N t) : SzP N (ysO t) := fun p hp => by
  obtain ⟨s, hs, rfl⟩ := List.mem_map.mp hp; exact (h s hs).2.1
theorem SzT.ws {N : Nat} {t : List Spo} (h : SzT N t) : SzP N (wsO t) := fun p hp => by
  obtain ⟨s, hs, rfl⟩ := List.mem_map.mp hp; exact (h s hs).2.2
theorem SzT.mono {N M : Nat} {t : List Spo} (h : SzT N t) (hm : N ≤ M) : SzT M t := fun s hs => ⟨(h s hs).1.mono hm, (h s hs).2.1.mono hm, (h s hs).2.2.mono hm⟩
theorem range_frs (ps : List Rat) {n : Nat} (h : n = ps.length) : (List.range n).map (fun k => fr (at0 ps k)) = ps.map fr := by
  subst h
  refine List.ext_getElem (by simp) fun i h1 h2 => ?_
  simp [at0_lt (show i < ps.length by simpa using h1)]
/-- [x for x, y, w in t], and so on: parts of the spots -/
theorem wp_parts {L : Lh} {Γ0 : G3} {m : Nat} {t : List Spo} {i j l : Nat} {e : E3} {ps : List Rat} {Q : D → Lh → Prop} {E : Str → Lh → Prop} (h : L[m]? = some (.lst (t.map spD))) (hl : t.length ≤ 1000) (hps : ps.length = t.length)
    (he : ∀ k (hk : k < t.length) L1, wpR (e (((Γ0.set i (some (fr t[k].x))).set j (some (fr t[k].y))).set l (some (fr t[k].w))) L1) (fun y L2 => y = fr (at0 ps k) ∧ L2 = L1) noE) (hn : Q (.loc L.length) (L ++ [.lst (ps.map fr)])) :
    wpR (lcL (fun L' => L'[m]? = some (.lst (t.map spD))) (gT 3 (gCons3 (gN i) (gCons3 (gN j) (gCons3 (gN l) gNil3)))) tTrue e Γ0 L.length (t.map spD) (L ++ [.lst []])) Q E := by
  refine wp_lcMap (fun k => fr (at0 ps k)) (by simp; omega) (fun _ => get_app h) (fun k hk acc => ?_) ?_
  · have hk' : k < t.length := by simpa using hk
    simp only [List.getElem_map]
    simp only [gT_sp, wp_gCons, wp_gN, Po.gs_nx, wp_gNil]
    exact he k hk' _
  · rw [range_frs ps (by simp [hps])]; exact hn
theorem fn_unsigned_eq (L : Lh) (q : Rat) : fn_unsigned [fr q] L = .val (fr (rabs q)) L := by
  apply wpR.eq
  unfold fn_unsigned d_unsigned
  refine wp_run rfl ?_
  simp [fr_abs, abs_if]
theorem fn_opposite_eq (L : Lh) (q : Rat) : fn_opposite [fr q] L = .val (fr (-q)) L := by
  have e : fr (-q) = .tup [.int (-q.num), .int q.den] := by unfold fr; rw [Rat.neg_num, Rat.neg_den]
  apply wpR.eq
  unfold fn_opposite d_opposite
  refine wp_run rfl ?_
  simp [e]
def rmN (t : List Spo) (k : Nat) : Rat := rabs (lev (xsO t) k) / at0 (wsO t) k
def room (t : List Spo) : Rat := sumN (rmN t) t.length
def tilt (t : List Spo) : Rat := wsum (xsO t) (ysO t)
def firstE (t : List Spo) : Rat := if t.length % 2 = 1 then tilt t / room t else -(tilt t / room t)
theorem w_ne {t : List Spo} (h : WPos t) {k : Nat} (hk : k < t.length) : at0 (wsO t) k ≠ 0 := by
  rw [wsO_at hk]
  have := h _ (List.getElem_mem hk)
  intro z; rw [z] at this; exact absurd this Rat.lt_irrefl
theorem rmN_sz {N : Nat} {t : List Spo} (h : SzT N t) (hw : WPos t) (hd : Dis (xsO t)) (hn : t.length ≤ 8) {k : Nat} (hk : k < t.length) : Sz (17 * N + 27) (rmN t k) := by
  have h1 := (lev_sz h.xs hd (k := k) (by simpa using hk)).abs
  have h2 := sz_at0 h.ws k
  have hm := Nat.mul_le_mul hn (Nat.le_refl (2 * N + 3))
  rw [xsO_len] at h1
  exact (h1.div h2 (w_ne hw hk)).mono (by omega)
theorem room_sz {N : Nat} {t : List Spo} (h : SzT N t) (hw : WPos t) (hd : Dis (xsO t)) (hn : t.length ≤ 8) {j : Nat} (hj : j ≤ t.length) : Sz (136 * N + 225) (sumN (rmN t) j) :=
  (sumN_sz fun k hk => rmN_sz h hw hd hn (show k < t.length by omega)).mono (sum8 (by omega) (by omega))
theorem wsNt_sz {N : Nat} {t : List Spo} (h : SzT N t) (hd : Dis (xsO t)) (hn : t.length ≤ 8) {j : Nat} (hj : j ≤ t.length) : Sz (136 * N + 225) (wsN (xsO t) (ysO t) j) := by
  rw [wsN_sum]
  refine (sumN_sz (b := 17 * N + 27) fun k hk => ?_).mono (sum8 (by omega) (by omega))
  have h1 := lev_sz h.xs hd (k := k) (by simp; omega)
  have hm := Nat.mul_le_mul hn (Nat.le_refl (2 * N + 3))
  rw [xsO_len] at h1
  exact (h1.mul (sz_at0 h.ys k)).mono (by omega)
theorem rmN_pos {t : List Spo} (hw : WPos t) (hd : Dis (xsO t)) {k : Nat} (hk : k < t.length) : 0 < rmN t k := by
  have h0 := apN_ne hd (k := k) (by simpa using hk) (xsO t).length (Nat.le_refl _)
  have h1 : lev (xsO t) k ≠ 0 := fun z => by
    unfold lev at z
    have e : 1 / apN (xsO t) k (xsO t).length * apN (xsO t) k (xsO t).length = 1 := by grind
    rw [z] at e; grind
  have h2 : 0 < rabs (lev (xsO t) k) := by
    unfold rabs
    rcases rat_sides h1 with q | q
    · rw [if_pos q]; grind
    · rw [if_neg (by grind)]; exact q
  have h3 : 0 < at0 (wsO t) k := by rw [wsO_at hk]; exact hw _ (List.getElem_mem hk)
  unfold rmN
  rw [Rat.div_def]
  exact Rat.mul_pos h2 (Rat.inv_pos.mpr h3)
theorem room_pos {t : List Spo} (hw : WPos t) (hd : Dis (xsO t)) (h0 : 0 < t.length) : 0 < room t := sumN_pos (fun k hk => rmN_pos hw hd hk) h0
theorem fn_room_of_eq {L : Lh} {N n : Nat} {t : List Spo} (ht : L[n]? = some (.lst (t.map spD))) (h : SzT N t) (hw : WPos t) (hd : Dis (xsO t)) (hn : t.length ≤ 8) (hs : 200 * N + 400 ≤ LIM) : fn_room_of [.loc n] L = .val (fr (room t)) L := by
  apply wpR.eq
  unfold fn_room_of d_room_of
  refine wp_run rfl ?_
  simp [k0, ltR_loc ht]
  refine wp_parts ht (by omega) (xsO_len t) (fun k hk L1 => by simp [xsO_at hk]) ?_
  have lim : ((xsO t).length + 1) * (2 * N + 3) + 2 ≤ LIM := by
    have := Nat.mul_le_mul (show (xsO t).length + 1 ≤ 9 by simp; omega) (Nat.le_refl (2 * N + 3)); omega
  have lv := fn_levers_eq (L := L ++ [.lst ((xsO t).map fr)]) (.lst get_last) h.xs hd (by simp; omega) lim
  simp [lv, -List.map_map]
  have hz := zpR_loc (L := L ++ [.lst ((xsO t).map fr), .lst ((levs (xsO t)).map fr)]) (n := L.length + 1) (m := n) (xs := (levs (xsO t)).map fr) (ys := t.map spD) (by simp) (get_app ht)
  rw [hz]
  simp [-List.map_map]
  generalize hL1 : L ++ [Cell.lst ((xsO t).map fr), Cell.lst ((levs (xsO t)).map fr)] = L1 at *
  have c1 : L1[L.length + 1]? = some (.lst ((levs (xsO t)).map fr)) := by rw [← hL1]; simp
  have c2 : L1[n]? = some (.lst (t.map spD)) := by rw [← hL1]; exact get_app ht
  refine wp_for (fun k Γ L' => (∃ v2 v3, Γ = [some (.loc n), some (fr (sumN (rmN t) k)), v2, v3, none, none, none]) ∧ L' = L1) ⟨⟨_, _, rfl⟩, rfl⟩ (fun _ _ _ _ q => by rw [q.2]; exact ⟨c1, c2⟩) (fun k hk Γ L' J hJ hI => ?_) (fun Γ L' hI => ?_)
  · obtain ⟨⟨v2, v3, rfl⟩, rfl⟩ := hI
    have hk' : k < t.length := by simp at hk; omega
    have el : (levs (xsO t))[k]'(by simp; omega) = lev (xsO t) k := by simp [levs]
    simp only [zipD_get, List.getElem_map, el]
    have s1 := (lev_sz h.xs hd (k := k) (by simpa using hk')).abs
    have hm := Nat.mul_le_mul hn (Nat.le_refl (2 * N + 3))
    rw [xsO_len] at s1
    have z1 := fn_over_eq L' (p := rabs (lev (xsO t) k)) (q := t[k].w) (Fit.of s1 (by omega)) (Fit.of (h _ (List.getElem_mem hk')).2.2 (by omega)) (by rw [← wsO_at hk']; exact w_ne hw hk')
    have z2 := fn_plus_eq L' (Fit.of (room_sz h hw hd hn (show k ≤ t.length by omega)) (by omega)) (Fit.of (rmN_sz h hw hd hn hk') (by omega))
    have e3 : rabs (lev (xsO t) k) / t[k].w = rmN t k := by unfold rmN; rw [wsO_at hk']
    rw [e3] at z1
    simp [fn_unsigned_eq, z1, z2]
    exact hJ _ _ ⟨⟨_, _, rfl⟩, rfl⟩
  · obtain ⟨⟨v2, v3, rfl⟩, rfl⟩ := hI
    have e : (zipD ((levs (xsO t)).map fr) (t.map spD)).length = t.length := by simp
    simp only [e]
    simp [← hL1, room]
theorem firstE_sz {N : Nat} {t : List Spo} (h : SzT N t) (hw : WPos t) (hd : Dis (xsO t)) (hn : t.length ≤ 8) (h0 : 0 < t.length) : Sz (272 * N + 450) (firstE t) := by
  have s1 := wsNt_sz h hd hn (j := t.length) (Nat.le_refl _)
  have s2 := room_sz h hw hd hn (j := t.length) (Nat.le_refl _)
  have hr := room_pos hw hd h0
  have hr0 : room t ≠ 0 := fun z => by rw [z] at hr; exact absurd hr Rat.lt_irrefl
  have s3 : Sz (272 * N + 450) (tilt t / room t) := by
    have e : tilt t = wsN (xsO t) (ysO t) t.length := by unfold tilt wsum; simp
    rw [e]
    exact (s1.div s2 hr0).mono (by omega)
  unfold firstE
  split
  · exact s3
  · exact s3.neg
theorem fn_first_error_eq {L : Lh} {N n : Nat} {t : List Spo} (ht : L[n]? = some (.lst (t.map spD))) (h : SzT N t) (hw : WPos t) (hd : Dis (xsO t)) (hn : t.length ≤ 8) (h0 : 0 < t.length) (hs : 300 * N + 1000 ≤ LIM) : fn_first_error [.loc n] L = .val (fr (firstE t)) L := by
  apply wpR.eq
  unfold fn_first_error d_first_error
  refine wp_run rfl ?_
  simp [ltR_loc ht]
  refine wp_parts ht (by omega) (xsO_len t) (fun k hk L1 => by simp [xsO_at hk]) ?_
  have ht2 := get_app (X := [.lst ((xsO t).map fr)]) ht
  have hx2 := get_last (L := L) (c := .lst ((xsO t).map fr))
  generalize hL1 : L ++ [Cell.lst ((xsO t).map fr)] = L1 at *
  simp [ltR_loc ht2]
  refine wp_parts ht2 (by omega) (ysO_len t) (fun k hk L1 => by simp [ysO_at hk]) ?_
  have ht3 := get_app (X := [.lst ((ysO t).map fr)]) ht2
  have hx3 := get_app (X := [.lst ((ysO t).map fr)]) hx2
  have hy3 := get_last (L := L1) (c := .lst ((ysO t).map fr))
  generalize hL2 : L1 ++ [Cell.lst ((ysO t).map fr)] = L2 at *
  have s1 := wsNt_sz h hd hn (j := t.length) (Nat.le_refl _)
  have s2 := room_sz h hw hd hn (j := t.length) (Nat.le_refl _)
  have hr := room_pos hw hd h0
  have hr0 : room t ≠ 0 := fun z => by rw [z] at hr; exact absurd hr Rat.lt_irrefl
  have e1 : wsum (xsO t) (ysO t) = tilt t := rfl
  have et : tilt t = wsN (xsO t) (ysO t) t.length := by unfold tilt wsum; simp
  have lim : ((xsO t).length + 1) * ((xsO t).length * (2 * N + 3) + N + 4) + 2 * N + 10 ≤ LIM := by
    have h1 := Nat.mul_le_mul (show (xsO t).length ≤ 8 by simpa using hn) (Nat.le_refl (2 * N + 3))
    have h2 := Nat.mul_le_mul (show (xsO t).length + 1 ≤ 9 by simp; omega) (show (xsO t).length * (2 * N + 3) + N + 4 ≤ 17 * N + 28 by omega)
    omega
  have zw := fn_weighed_eq hx3 hy3 h.xs h.ys hd (by simp; omega) (by simp) lim
  have zr := fn_room_of_eq ht3 h hw hd hn (by omega)
  have zo := fn_over_eq L2 (p := tilt t) (q := room t) (Fit.of (by rw [et]; exact s1) (by omega)) (Fit.of s2 (by omega)) hr0
  have ix := items_loc ht3
  simp [zw, zr, zo, ix, e1, -List.map_map]
  have hf : (t.length : Int).fmod 2 = ((t.length % 2 : Nat) : Int) := by rw [Int.fmod_eq_emod_of_nonneg _ (by omega)]; omega
  rw [hf]
  refine wp_ifE (fun q => ?_) (fun q => ?_)
  · have : t.length % 2 = 1 := by omega
    simp [firstE, this, ← hL2, ← hL1]
  · have : ¬ t.length % 2 = 1 := by omega
    simp [firstE, this, fn_opposite_eq, ← hL2, ← hL1]
theorem fn_bound_eq {L : Lh} {N n : Nat} {t : List Spo} (ht : L[n]? = some (.lst (t.map spD))) (h : SzT N t) (hw : WPos t) (hd : Dis (xsO t)) (hn : t.length ≤ 8) (h0 : 0 < t.length) (hs : 300 * N + 1000 ≤ LIM) : fn_bound [.loc n] L = .val (fr (rabs (firstE t))) L := by
  have z := fn_first_error_eq ht h hw hd hn h0 hs
  apply wpR.eq
  unfold fn_bound d_bound
  refine wp_run rfl ?_
  simp [z, fn_unsigned_eq]
theorem fn_without_root_eq (L : Lh) (x : Rat) : fn_without_root [fr x] L = .val (pol [-x, 1]) L := by
  apply wpR.eq
  unfold fn_without_root d_without_root
  refine wp_run rfl ?_
  have e : D.tup [fr (-x), fr 1] = pol [-x, 1] := rfl
  simp [fn_turned_eq, k1, e]
@[simp ↓] theorem gT_pr {gs : Tgs3} {p : Rat × Rat} {Γ : G3} {L : Lh} {P : Po} : wpS (gT 2 gs (prD p) Γ L) P = wpS (gs [fr p.1, fr p.2] Γ L) P := rfl
theorem thr_steep {ps : List (Rat × Rat)} {i : Nat} : thr ps (i + 1) = (psum (thr ps i).1 (pscale (thr ps i).2 ((at0 (pys ps) i - ev (thr ps i).1 (at0 (pxs ps) i)) / ev (thr ps i).2 (at0 (pxs ps) i))), pmul (thr ps i).2 [-(at0 (pxs ps) i), 1]) := rfl
theorem thr_roots_sz {N : Nat} {ps : List (Rat × Rat)} (h : SzP N (pxs ps)) {i : Nat} (hi : i ≤ ps.length) (hl : i ≤ 7) : SzP (128 * N + 512) (thr ps i).2 := by
  rw [thr_roots]
  exact rootsP_sz7 (revN_sz h (by simpa using hi)) (by rw [revN_len]; exact hl)
/-- one turn of through -/
theorem through_turn {L : Lh} {N M i : Nat} {ps : List (Rat × Rat)} (h : SzP N (pxs ps)) (hy : SzP M (pys ps)) (hd : DisN (pxs ps) i) (hi : i < ps.length) (hl : ps.length ≤ 7) (hs : 20000 * N + 200 * M + 200000 ≤ LIM) :
    fn_worth [pol (thr ps i).2, fr (at0 (pxs ps) i)] L = .val (fr (ev (thr ps i).2 (at0 (pxs ps) i))) L ∧
    fn_worth [pol (thr ps i).1, fr (at0 (pxs ps) i)] L = .val (fr (ev (thr ps i).1 (at0 (pxs ps) i))) L ∧
    fn_less [fr (at0 (pys ps) i), fr (ev (thr ps i).1 (at0 (pxs ps) i))] L = .val (fr (at0 (pys ps) i - ev (thr ps i).1 (at0 (pxs ps) i))) L ∧
    (ev (thr ps i).2 (at0 (pxs ps) i) ≠ 0 →
      fn_over [fr (at0 (pys ps) i - ev (thr ps i).1 (at0 (pxs ps) i)), fr (ev (thr ps i).2 (at0 (pxs ps) i))] L = .val (fr ((at0 (pys ps) i - ev (thr ps i).1 (at0 (pxs ps) i)) / ev (thr ps i).2 (at0 (pxs ps) i))) L ∧
      fn_times_all [pol (thr ps i).2, fr ((at0 (pys ps) i - ev (thr ps i).1 (at0 (pxs ps) i)) / ev (thr ps i).2 (at0 (pxs ps) i))] L = .val (pol (pscale (thr ps i).2 ((at0 (pys ps) i - ev (thr ps i).1 (at0 (pxs ps) i)) / ev (thr ps i).2 (at0 (pxs ps) i)))) L ∧
      fn_sum_of [pol (thr ps i).1, pol (pscale (thr ps i).2 ((at0 (pys ps) i - ev (thr ps i).1 (at0 (pxs ps) i)) / ev (thr ps i).2 (at0 (pxs ps) i)))] L = .val (pol (thr ps (i + 1)).1) L ∧
      fn_product [pol (thr ps i).2, pol [-(at0 (pxs ps) i), 1]] L = .val (pol (thr ps (i + 1)).2) L) := by
  have sx : Sz N (at0 (pxs ps) i) := by rw [at0_lt (by simpa using hi)]; exact h _ (List.getElem_mem _)
  have sy : Sz M (at0 (pys ps) i) := by rw [at0_lt (by simpa using hi)]; exact hy _ (List.getElem_mem _)
  have s1 := thr_roots_sz h (i := i) (by omega) (by omega)
  have s2 := thr_sz h hy hd (by omega) (by omega)
  have l1 : (thr ps i).2.length ≤ 8 := by rw [thr_roots, rootsP_len, revN_len]; omega
  have l2 : (thr ps i).1.length ≤ 7 := by have := thr_len ps i; omega
  have e1 := ev_sz s1 sx l1
  have e2 := ev_sz s2 sx l2
  have m1 := Nat.mul_le_mul (show (thr ps i).2.length + 1 ≤ 9 by omega) (Nat.le_refl (128 * N + 512 + N + 2))
  have m2 := Nat.mul_le_mul (show (thr ps i).1.length + 1 ≤ 8 by omega) (Nat.le_refl (1152 * N + 8 * M + 4400 + N + 2))
  have e3 := sy.sub e2
  have f1 : FitP (thr ps i).2 := FitP.of s1 (by omega)
  have f2 : FitP (thr ps i).1 := FitP.of s2 (by omega)
  refine ⟨fn_worth_eq L s1 sx (by omega), fn_worth_eq L s2 sx (by omega), fn_less_eq L (Fit.of sy (by omega)) (Fit.of e2 (by omega)), fun h0 => ?_⟩
  have e4 := e3.div e1 h0
  have s3 := s1.pscale e4
  have f4 := Fit.of e4 (by omega)
  refine ⟨fn_over_eq L (Fit.of e3 (by omega)) (Fit.of e1 (by omega)) h0, fn_times_all_eq L f1 f4 (by omega), ?_, ?_⟩
  · rw [thr_steep]
    exact fn_sum_of_eq L f2 (FitP.of s3 (by omega)) (by omega) (Nat.le_trans (pscale_len _ _) (by omega))
  · rw [thr_steep]
    have s5 : SzP (N + 1) [-(at0 (pxs ps) i), 1] := szP_cons (sx.neg.mono (by omega)) (szP_cons (sz1.mono (by omega)) szP_nil)
    have m3 := Nat.mul_le_mul (show (thr ps i).2.length + 1 ≤ 9 by omega) (Nat.le_refl (128 * N + 512 + (N + 1) + 3))
    exact fn_product_eq L s1 s5 (by omega) (by omega) (by simp)
theorem fn_through_eq {L : Lh} {N M n : Nat} {ps : List (Rat × Rat)} (hp : L[n]? = some (.lst (ps.map prD))) (h : SzP N (pxs ps)) (hy : SzP M (pys ps)) (hd : DisN (pxs ps) ps.length) (hl : ps.length ≤ 7) (hs : 20000 * N + 200 * M + 200000 ≤ LIM) : fn_through [.loc n] L = .val (pol (through ps)) L := by
  apply wpR.eq
  unfold fn_through d_through
  refine wp_run rfl ?_
  have e0 : D.tup [] = pol [] := rfl
  have e1 : D.tup [fr 1] = pol [1] := rfl
  simp [k1, e0, e1, ltR_loc hp]
  refine wp_for (fun i Γ L' => (∃ v3 v4 v5 v6, Γ = [some (.loc n), some (pol (thr ps i).1), some (pol (thr ps i).2), v3, v4, v5, v6]) ∧ L' = L) ⟨⟨_, _, _, _, rfl⟩, rfl⟩ (fun _ _ _ _ q => by rw [q.2, hp]) (fun i hi Γ L' J hJ hI => ?_) (fun Γ L' hI => ?_)
  · obtain ⟨⟨v3, v4, v5, v6, rfl⟩, rfl⟩ := hI
    have hi' : i < ps.length := by simpa using hi
    obtain ⟨z1, z2, z3, z4⟩ := through_turn (L := L') h hy (hd.mono (show i ≤ ps.length by omega)) hi' hl hs
    have h0 := steep_ne (hd.mono (show i + 1 ≤ ps.length by omega))
    obtain ⟨z5, z6, z7, z8⟩ := z4 h0
    simp only [List.getElem_map]
    simp only [gT_pr, ← pxs_at hi', ← pys_at hi']
    simp [z1, z2, z3, z5, z6, z7, z8, k0, h0, fn_without_root_eq]
    exact hJ _ _ ⟨⟨_, _, _, _, rfl⟩, rfl⟩
  · obtain ⟨⟨v3, v4, v5, v6, rfl⟩, rfl⟩ := hI
    simp [through]
/-! ## the level of a reference -/
/-- where the level's polynomial lies at the spots but the first -/
def lvPairs (t : List Spo) : List (Rat × Rat) := (List.range (t.length - 1)).map fun k => (at0 (xsO t) (k + 1), at0 (ysO t) (k + 1) - sg (k + 1) * firstE t / at0 (wsO t) (k + 1))
def lvPoly (t : List Spo) : List Rat := through (lvPairs t)
@[simp] theorem lvPairs_len (t : List Spo) : (lvPairs t).length = t.length - 1 := by simp [lvPairs]
theorem lvPairs_at {t : List Spo} {k : Nat} (h : k < t.length - 1) : (lvPairs t)[k]'(by simpa using h) = (at0 (xsO t) (k + 1), at0 (ysO t) (k + 1) - sg (k + 1) * firstE t / at0 (wsO t) (k + 1)) := by simp [lvPairs]
theorem lv_xs {t : List Spo} {k : Nat} (h : k < t.length - 1) : at0 (pxs (lvPairs t)) k = at0 (xsO t) (k + 1) := by rw [pxs_at (by simpa using h), lvPairs_at h]
theorem lv_ys {t : List Spo} {k : Nat} (h : k < t.length - 1) : at0 (pys (lvPairs t)) k = at0 (ysO t) (k + 1) - sg (k + 1) * firstE t / at0 (wsO t) (k + 1) := by rw [pys_at (by simpa using h), lvPairs_at h]
theorem lv_dis {t : List Spo} (hd : Dis (xsO t)) : DisN (pxs (lvPairs t)) (lvPairs t).length := fun a b ha hb hab => by
  simp at ha hb
  rw [lv_xs ha, lv_xs hb]
  exact hd _ _ (by simp; omega) (by simp; omega) (by omega)
theorem sgh_sz {N k : Nat} {h : Rat} (s : Sz N h) : Sz N (sg k * h) := by
  unfold sg
  split
  · rw [Rat.one_mul]; exact s
  · have : -1 * h = -h := by grind
    rw [this]; exact s.neg
theorem lv_szx {N : Nat} {t : List Spo} (h : SzT N t) : SzP N (pxs (lvPairs t)) := fun p hp => by
  obtain ⟨k, hk, rfl⟩ := List.mem_iff_getElem.mp hp
  have hk' : k < t.length - 1 := by simpa using hk
  rw [← at0_lt hk, lv_xs hk', at0_lt (by simp; omega)]
  exact h.xs _ (List.getElem_mem _)
theorem lv_szy {N : Nat} {t : List Spo} (h : SzT N t) (hw : WPos t) (hd : Dis (xsO t)) (hn : t.length ≤ 8) : SzP (274 * N + 455) (pys (lvPairs t)) := fun p hp => by
  obtain ⟨k, hk, rfl⟩ := List.mem_iff_getElem.mp hp
  have hk' : k < t.length - 1 := by simpa using hk
  rw [← at0_lt hk, lv_ys hk']
  have s1 := sgh_sz (k := k + 1) (firstE_sz h hw hd hn (by omega))
  have s2 := h.ws.get (k := k + 1) (by simp; omega)
  have s3 := h.ys.get (k := k + 1) (by simp; omega)
  rw [← at0_lt (by simp; omega)] at s2 s3
  exact (s3.sub (s1.div s2 (w_ne hw (by omega)))).mono (by omega)
theorem lvPoly_len (t : List Spo) : (lvPoly t).length ≤ t.length - 1 := by
  have := thr_len (lvPairs t) (lvPairs t).length
  simpa [lvPoly, through] using this
theorem lvPoly_sz {N : Nat} {t : List Spo} (h : SzT N t) (hw : WPos t) (hd : Dis (xsO t)) (hn : t.length ≤ 8) : SzP (3400 * N + 8100) (lvPoly t) := by
  have := thr_sz (lv_szx h) (lv_szy h hw hd hn) (lv_dis hd) (Nat.le_refl _) (by simp; omega)
  exact this.mono (by omega)
/-- a level's errors: of one size, by turns -/
theorem lv_right {t : List Spo} (hr : Rise (xsO t)) (hw : WPos t) (h2 : 2 ≤ t.length) : ∀ k, k < t.length → at0 (ysO t) k - ev (lvPoly t) (at0 (xsO t) k) = sg k * firstE t / at0 (wsO t) k := by
  have hd := hr.dis
  have rest : ∀ k, k + 1 < t.length → at0 (ysO t) (k + 1) - ev (lvPoly t) (at0 (xsO t) (k + 1)) = sg (k + 1) * firstE t / at0 (wsO t) (k + 1) := fun k hk => by
    have := thr_pass (lv_dis hd) k (by simp; omega)
    rw [lv_xs (by omega), lv_ys (by omega)] at this
    have e : (thr (lvPairs t) (lvPairs t).length).1 = lvPoly t := rfl
    rw [e] at this
    grind
  intro k hk
  cases k with
  | succ k => exact rest k hk
  | zero =>
    -- all together, weighed
    have w1 : wsum (xsO t) ((List.range t.length).map fun k => ev (lvPoly t) (at0 (xsO t) k)) = 0 := by
      have hl := lvPoly_len t
      rw [wsum_ev (ps := lvPoly t) hd (by simp; omega) (by simp; omega) (fun k hk => at0_map (by simpa using hk))]
      exact at0_ge (by simp; omega)
    rw [wsum_sum, xsO_len] at w1
    have e1 : sumN (fun j => lev (xsO t) j * at0 ((List.range t.length).map fun k => ev (lvPoly t) (at0 (xsO t) k)) j) t.length = sumN (fun j => lev (xsO t) j * ev (lvPoly t) (at0 (xsO t) j)) t.length := sumN_congr fun j hj => by rw [at0_map hj]
    rw [e1] at w1
    have e2 : sumN (fun j => lev (xsO t) j * (sg j * firstE t / at0 (wsO t) j)) t.length = tilt t := by
      have hr0 := room_pos hw hd (show 0 < t.length by omega)
      have hr1 : room t ≠ 0 := fun z => by rw [z] at hr0; exact absurd hr0 Rat.lt_irrefl
      have e3 : sumN (fun j => lev (xsO t) j * (sg j * firstE t / at0 (wsO t) j)) t.length = sumN (fun j => (firstE t * sg (t.length - 1)) * rmN t j) t.length := sumN_congr fun j hj => by
        unfold rmN
        rw [lev_abs hr (by simpa using hj), xsO_len]
        have a1 := sg_add j (t.length - 1 - j)
        rw [show j + (t.length - 1 - j) = t.length - 1 by omega] at a1
        have a2 := sg_sq (t.length - 1 - j)
        have a3 := w_ne hw hj
        rw [a1]
        generalize sg (t.length - 1 - j) = s at *
        grind
      rw [e3, sumN_mul]
      have e4 : firstE t * sg (t.length - 1) = tilt t / room t := by
        unfold firstE sg
        by_cases hp : t.length % 2 = 1
        · rw [if_pos hp, if_pos (by omega)]; grind
        · rw [if_neg hp, if_neg (by omega)]; grind
      rw [e4]
      show tilt t / room t * room t = tilt t
      grind
    have e5 : tilt t = sumN (fun j => lev (xsO t) j * at0 (ysO t) j) t.length := by unfold tilt; rw [wsum_sum, xsO_len]
    -- the terms but the first are alike
    have e6 : sumN (fun j => lev (xsO t) j * (at0 (ysO t) j - ev (lvPoly t) (at0 (xsO t) j) - sg j * firstE t / at0 (wsO t) j)) t.length = 0 := by
      have : sumN (fun j => lev (xsO t) j * (at0 (ysO t) j - ev (lvPoly t) (at0 (xsO t) j) - sg j * firstE t / at0 (wsO t) j)) t.length = sumN (fun j => (lev (xsO t) j * at0 (ysO t) j - lev (xsO t) j * ev (lvPoly t) (at0 (xsO t) j)) - lev (xsO t) j * (sg j * firstE t / at0 (wsO t) j)) t.length := sumN_congr fun j _ => by grind
      rw [this, sumN_sub, sumN_sub, ← e5, w1, e2]; grind
    rw [sumN_one (j := 0) (by omega) (fun j hj hj0 => by
      obtain ⟨i, rfl⟩ : ∃ i, j = i + 1 := ⟨j - 1, by omega⟩
      rw [rest i hj]; grind)] at e6
    have h0 := apN_ne hd (k := 0) (by simp; omega) (xsO t).length (Nat.le_refl _)
    have h1 : lev (xsO t) 0 ≠ 0 := fun z => by
      unfold lev at z
      have e : 1 / apN (xsO t) 0 (xsO t).length * apN (xsO t) 0 (xsO t).length = 1 := by grind
      rw [z] at e; grind
    rcases Rat.mul_eq_zero.mp e6 with z | z
    · exact absurd z h1
    · grind
/-- just one polynomial and one number are so -/
theorem lv_unique {t : List Spo} {q : List Rat} {g : Rat} (hr : Rise (xsO t)) (hw : WPos t) (h2 : 2 ≤ t.length) (hq : q.length ≤ t.length - 1) (h : ∀ k, k < t.length → at0 (ysO t) k - ev q (at0 (xsO t) k) = sg k * g / at0 (wsO t) k) : g = firstE t ∧ trim q = lvPoly t := by
  have hd := hr.dis
  have hr0 := room_pos hw hd (show 0 < t.length by omega)
  have hr1 : room t ≠ 0 := fun z => by rw [z] at hr0; exact absurd hr0 Rat.lt_irrefl
  -- any such pair has this number
  have key : ∀ (q : List Rat) (g : Rat), q.length ≤ t.length - 1 → (∀ k, k < t.length → at0 (ysO t) k - ev q (at0 (xsO t) k) = sg k * g / at0 (wsO t) k) → tilt t = g * sg (t.length - 1) * room t := fun q g hq h => by
    have w1 : wsum (xsO t) ((List.range t.length).map fun k => ev q (at0 (xsO t) k)) = 0 := by
      rw [wsum_ev (ps := q) hd (by simp; omega) (by simp; omega) (fun k hk => at0_map (by simpa using hk))]
      exact at0_ge (by simp; omega)
    rw [wsum_sum, xsO_len] at w1
    have e1 : sumN (fun j => lev (xsO t) j * at0 ((List.range t.length).map fun k => ev q (at0 (xsO t) k)) j) t.length = sumN (fun j => lev (xsO t) j * ev q (at0 (xsO t) j)) t.length := sumN_congr fun j hj => by rw [at0_map hj]
    rw [e1] at w1
    have e3 : tilt t - 0 = sumN (fun j => (g * sg (t.length - 1)) * rmN t j) t.length := by
      rw [← w1]
      unfold tilt
      rw [wsum_sum, xsO_len, ← sumN_sub]
      refine sumN_congr fun j hj => ?_
      unfold rmN
      rw [lev_abs hr (by simpa using hj), xsO_len]
      have a1 := sg_add j (t.length - 1 - j)
      rw [show j + (t.length - 1 - j) = t.length - 1 by omega] at a1
      have a2 := sg_sq (t.length - 1 - j)
      have a3 := w_ne hw hj
      have a4 := h j hj
      rw [a1]
      generalize sg (t.length - 1 - j) = s at *
      have : lev (xsO t) j * at0 (ysO t) j - lev (xsO t) j * ev q (at0 (xsO t) j) = lev (xsO t) j * (sg j * g / at0 (wsO t) j) := by rw [← a4]; grind
      rw [this]
      grind
    rw [sumN_mul] at e3
    have : sumN (rmN t) t.length = room t := rfl
    rw [this] at e3
    grind
  have k1 := key q g hq h
  have k2 := key (lvPoly t) (firstE t) (lvPoly_len t) (lv_right hr hw h2)
  have hg : g = firstE t := by
    rw [k1] at k2
    have a2 := sg_sq (t.length - 1)
    generalize sg (t.length - 1) = s at *
    have : g * s = firstE t * s := by
      have e : (g * s) * room t / room t = (firstE t * s) * room t / room t := by rw [k2]
      have e1 : (g * s) * room t / room t = g * s := by grind
      have e2 : (firstE t * s) * room t / room t = firstE t * s := by grind
      rw [← e1, e, e2]
    have e3 : g * s * s = firstE t * s * s := by rw [this]
    grind
  refine ⟨hg, ?_⟩
  have e : trim q = trim (lvPoly t) := by
    refine ev_ext_at hd.nodup (by simp; omega) (by have := lvPoly_len t; simp; omega) fun x hx => ?_
    obtain ⟨k, hk, rfl⟩ := List.mem_iff_getElem.mp hx
    have hk' : k < t.length := by simpa using hk
    rw [← at0_lt hk]
    have a1 := h k hk'
    have a2 := lv_right hr hw h2 k hk'
    rw [hg] at a1
    grind
  rw [e]
  exact trim_thr _ _
theorem lim_lv0 {N L M : Nat} (hM : M = 274 * N + 455) (hs : 100000 * N + 400000 ≤ L) : 20000 * N + 200 * M + 200000 ≤ L := by omega
theorem lim_lv {N : Nat} (hs : 100000 * N + 400000 ≤ LIM) : 20000 * N + 200 * (274 * N + 455) + 200000 ≤ LIM := lim_lv0 rfl hs
theorem range_prs (ps : List (Rat × Rat)) {n : Nat} (f : Nat → D) (h : n = ps.length) (hf : ∀ k (hk : k < ps.length), f k = prD ps[k]) : (List.range n).map f = ps.map prD := by
  subst h
  refine List.ext_getElem (by simp) fun i h1 h2 => ?_
  have : i < ps.length := by simpa using h1
  simp [hf i this]
theorem fmod2 (k : Nat) : ((k : Int)).fmod 2 = ((k % 2 : Nat) : Int) := by rw [Int.fmod_eq_emod_of_nonneg _ (by omega)]; omega
theorem fn_level_eq {L : Lh} {N n : Nat} {t : List Spo} (ht : L[n]? = some (.lst (t.map spD))) (h : SzT N t) (hw : WPos t) (hd : Dis (xsO t)) (hn : t.length ≤ 8) (h0 : 2 ≤ t.length) (hs : 100000 * N + 400000 ≤ LIM) : fn_level [.loc n] L = .val (.tup [pol (lvPoly t), fr (firstE t)]) L := by
  apply wpR.eq
  unfold fn_level d_level
  refine wp_run rfl ?_
  have z1 := fn_first_error_eq ht h hw hd hn (by omega) (by omega)
  simp [z1]
  have ht1 := get_app (X := [.lst []]) ht
  have hm1 := get_last (L := L) (c := .lst [])
  generalize hL1 : L ++ [Cell.lst []] = L1 at *
  obtain ⟨s0, r, rfl⟩ : ∃ s0 r, t = s0 :: r := by
    cases t with
    | nil => simp at h0
    | cons s0 r => exact ⟨s0, r, rfl⟩
  have sl := sliceD_from (xs := (s0 :: r).map spD) 1 ht1
  have sl' : sliceD (.loc n) (some 1) none L1 = .val (.loc L1.length) (L1 ++ [.lst (r.map spD)]) := sl
  simp [sl']
  have hm2 := get_app (X := [.lst (r.map spD)]) hm1
  have hs2 := get_last (L := L1) (c := .lst (r.map spD))
  have pre2 : Pre L (L1 ++ [.lst (r.map spD)]) := by rw [← hL1]; exact Pre.new.app
  generalize hL2 : L1 ++ [Cell.lst (r.map spD)] = L2 at *
  have hne : L.length ≠ L1.length := by rw [← hL1]; simp
  generalize hT : s0 :: r = t at *
  have hrl : r.length = t.length - 1 := by rw [← hT]; simp
  have hrk : ∀ k (hk : k < r.length), r[k].x = at0 (xsO t) (k + 1) ∧ r[k].y = at0 (ysO t) (k + 1) ∧ r[k].w = at0 (wsO t) (k + 1) := fun k hk => by
    have hk1 : k + 1 < t.length := by omega
    rw [xsO_at hk1, ysO_at hk1, wsO_at hk1]
    subst hT
    simp
  refine wp_for (fun k Γ L' => (∃ v3 v4 v5 v6 v7, Γ = [some (.loc n), some (fr (firstE t)), some (.loc L.length), v3, v4, v5, v6, v7]) ∧ Pre L L' ∧ L'[L1.length]? = some (.lst (r.map spD)) ∧ L'[L.length]? = some (.lst (((lvPairs t).take k).map prD))) ⟨⟨_, _, _, _, _, rfl⟩, pre2, hs2, by simpa using hm2⟩ (fun _ _ _ _ q => q.2.2.1) (fun k hk Γ L' J hJ hI => ?_) (fun Γ L' hI => ?_)
  · obtain ⟨⟨v3, v4, v5, v6, v7, rfl⟩, q1, q2, q3⟩ := hI
    have hk' : k < r.length := by simpa using hk
    obtain ⟨e1, e2, e3⟩ := hrk k hk'
    simp only [enumD_get, List.getElem_map]
    simp [fmod2]
    have fin : ∀ z : Rat, z = sg (k + 1) * firstE t → wpS ((sDrop
          (eMt "list" mAppend (eVar 2)
            (aCons
              (eTup
                (aCons (eVar 4)
                  (aCons
                    (eCall fn_less (aCons (eVar 5) (aCons (eCall fn_over (aCons (eVar 7) (aCons (eVar 6) aNil))) aNil)))
                    aNil)))
              aNil))) [some (.loc n), some (fr (firstE t)), some (.loc L.length), some (.int k), some (fr r[k].x), some (fr r[k].y), some (fr r[k].w), some (fr z)] L')
        (((Po.fn L (fun b L1 => b = D.tup [pol (lvPoly t), fr (firstE t)] ∧ L1 = L) noE).seq
      (sRet (eTup (aCons (eCall fn_through (aCons (eVar 2) aNil)) (aCons (eVar 1) aNil))))).loop J) := fun z hz => by
      have sz := sgh_sz (k := k + 1) (firstE_sz h hw hd hn (by omega))
      rw [← hz] at sz
      have sw := h.ws.get (k := k + 1) (by simp; omega)
      have sy := h.ys.get (k := k + 1) (by simp; omega)
      rw [← at0_lt (by simp; omega)] at sw sy
      have w0 := w_ne hw (k := k + 1) (by omega)
      have a1 := fn_over_eq L' (Fit.of sz (by omega)) (Fit.of sw (by omega)) w0
      have a2 := fn_less_eq L' (Fit.of sy (by omega)) (Fit.of (sz.div sw w0) (by omega))
      have a3 : z / at0 (wsO t) (k + 1) = sg (k + 1) * firstE t / at0 (wsO t) (k + 1) := by rw [hz]
      have ln : (((lvPairs t).take k).map prD).length ≤ 100000 := by simp; omega
      rw [e1, e2, e3]
      simp [q3, a1, a2]
      rw [mAppend_eq q3 ln]
      refine hJ _ _ ⟨⟨_, _, _, _, _, rfl⟩, q1.set (Nat.le_refl _), get_set_ne q2 hne, ?_⟩
      rw [get_set q3]
      have lk : k < (lvPairs t).length := by simp; omega
      rw [List.take_succ_eq_append_getElem lk, lvPairs_at (by omega), a3]
      simp [prD]
    refine wp_ifE (fun q => ?_) (fun q => ?_)
    · have hq : k % 2 = 1 := by omega
      simp
      have := fin (firstE t) (by unfold sg; rw [if_pos (by omega)]; grind)
      simpa using this
    · have hq : ¬ k % 2 = 1 := by omega
      simp [fn_opposite_eq]
      have := fin (-(firstE t)) (by unfold sg; rw [if_neg (by omega)]; grind)
      simpa using this
  · obtain ⟨⟨v3, v4, v5, v6, v7, rfl⟩, q1, q2, q3⟩ := hI
    have el : (enumD (r.map spD)).length = (lvPairs t).length := by simp; omega
    rw [el, List.take_length] at q3
    have hl7 : (lvPairs t).length ≤ 7 := by rw [lvPairs_len]; omega
    have lim : 20000 * N + 200 * (274 * N + 455) + 200000 ≤ LIM := lim_lv hs
    have th := fn_through_eq q3 (lv_szx h) (lv_szy h hw hd hn) (lv_dis hd) hl7 lim
    have th' : through (lvPairs t) = lvPoly t := rfl
    rw [th'] at th
    simp [th]
    exact wp_truncP q1 (by simp) ⟨rfl, rfl⟩
def k_NOUGHT_fractions : D := .tup [.int 0, .int 1]
def k_ONE_fractions : D := .tup [.int 1, .int 1]
def k_NOUGHT_levers : D := .tup [.int 0, .int 1]
def k_ONE_levers : D := .tup [.int 1, .int 1]
noncomputable def d_law_light : S3 :=
    (sSeq (sIf (tE (eOp fEq (eCall fn_law_draw (aCons (eVar 0) (aCons (eC (.int 2)) aNil))) (eC (.int 0)))) (sRet (eTup (aCons (eC (.int 1)) (aCons (eC (.int 1)) aNil)))) sNext)
    (sRet (eCall fn_law_fraction (aCons (eOp fAdd (eC (.int 1)) (eCall fn_law_draw (aCons (eVar 0) (aCons (eC (.int 9)) aNil)))) (aCons (eOp fAdd (eC (.int 1)) (eCall fn_law_draw (aCons (eVar 0) (aCons (eC (.int 9)) aNil)))) aNil)))))
noncomputable def fn_law_light : Fn3 := run3 1 1 d_law_light
noncomputable def d_law_few_numbers : S3 :=
    (sSeq (sSet 2 (eOp fAdd (eC (.int 1)) (eCall fn_law_draw (aCons (eVar 0) (aCons (eC (.int 3)) aNil)))))
    (sSeq (sSet 3 (eOp fSub (eCall fn_law_draw (aCons (eVar 0) (aCons (eC (.int 5)) aNil))) (eVar 1)))
    (sSeq (sSet 4 (eLst aNil))
    (sSeq (sFor (iR1 (aCons (eVar 1) aNil)) (gN 5) (sSeq (sDrop (eMt "list" mAppend (eVar 4) (aCons (eCall fn_law_fraction (aCons (eVar 3) (aCons (eVar 2) aNil))) aNil)))
    (sSet 3 (eOp fAdd (eOp fAdd (eVar 3) (eC (.int 1))) (eCall fn_law_draw (aCons (eVar 0) (aCons (eC (.int 2)) aNil)))))))
    (sRet (eVar 4))))))
noncomputable def fn_law_few_numbers : Fn3 := run3 2 6 d_law_few_numbers
noncomputable def d_law_small : S3 :=
    (sRet (eCall fn_law_fraction (aCons (eOp fSub (eCall fn_law_draw (aCons (eVar 0) (aCons (eC (.int 19)) aNil))) (eC (.int 9))) (aCons (eOp fAdd (eC (.int 1)) (eCall fn_law_draw (aCons (eVar 0) (aCons (eC (.int 3)) aNil)))) aNil))))
noncomputable def fn_law_small : Fn3 := run3 1 1 d_law_small
noncomputable def d_law_poly : S3 :=
    (sSeq (sSet 2 (eLst aNil))
    (sSeq (sFor (iR1 (aCons (eCall fn_law_draw (aCons (eVar 0) (aCons (eOp fAdd (eVar 1) (eC (.int 1))) aNil))) aNil)) (gN 3) (sDrop (eMt "list" mAppend (eVar 2) (aCons (eCall fn_law_small (aCons (eVar 0) aNil)) aNil))))
    (sSeq (sWhile (tAnd3 (tE (eOp fNe (eVar 2) (eLst aNil))) (tE (eOp fEq (eOp fIx (eOp fIx (eVar 2) (eUn fNeg (eC (.int 1)))) (eC (.int 0))) (eC (.int 0))))) (sDrop (eMt0 "list" mPop (eVar 2))))
    (sRet (eCall fTuple (aCons (eVar 2) aNil))))))
noncomputable def fn_law_poly : Fn3 := run3 2 4 d_law_poly
noncomputable def d_law_at : S3 :=
    (sSeq (sSet 2 (eTup (aCons (eC (.int 0)) (aCons (eC (.int 1)) aNil))))
    (sSeq (sFor (iRev (eVar 0)) (gN 3) (sSet 2 (eCall fn_law_plus (aCons (eCall fn_law_times (aCons (eVar 2) (aCons (eVar 1) aNil))) (aCons (eVar 3) aNil)))))
    (sRet (eVar 2))))
noncomputable def fn_law_at : Fn3 := run3 2 4 d_law_at
theorem Grow.over {n m : Nat} {L0 L L' : Lh} (a : Grow n L0 L) (b : Grow m L L') (hm : L0.length ≤ m) : Grow n L0 L' := ⟨Nat.le_trans a.le b.le, fun k hk hk2 => by
  rw [b.at_ k (Nat.lt_of_lt_of_le hk a.le) (by omega)]; exact a.at_ k hk hk2⟩
theorem PotAt.grow {n m : Nat} {L L' : Lh} (p : PotAt L n) (b : Grow m L L') (hm : n ≠ m) : PotAt L' n := by
  obtain ⟨a, c, h1, h2⟩ := p
  exact ⟨a, c, b.keep h1 hm, h2⟩
theorem trim_snoc0 : ∀ r : List Rat, trim (r ++ [0]) = trim r
  | [] => by simp [trim]
  | c :: r => by rw [List.cons_append, trim, trim_snoc0 r, trim]
/-- noughts at the end of a list are taken off -/
theorem strip_loop {L : Lh} {m i : Nat} {Γ : G3} {P : Po} (hΓ : Γ[i]? = some (some (.loc m))) : ∀ {ps : List Rat}, L[m]? = some (.lst (ps.map fr)) → ps.length ≤ 100000 → (∀ L', L'[m]? = some (.lst ((trim ps).map fr)) → Grow m L L' → P.nx Γ L') →
    wpS (sWhile (tAnd3 (tE (eOp fNe (eVar i) (eLst aNil))) (tE (eOp fEq (eOp fIx (eOp fIx (eVar i) (eUn fNeg (eC (.int 1)))) (eC (.int 0))) (eC (.int 0))))) (sDrop (eMt0 "list" mPop (eVar i))) Γ L) P := by
  intro ps hL hl h
  refine wp_whl (fun k Γ' L' => Γ' = Γ ∧ k ≤ ps.length ∧ L'[m]? = some (.lst ((ps.take k).map fr)) ∧ trim (ps.take k) = trim ps ∧ Grow m L L') ps.length ⟨rfl, Nat.le_refl _, by rw [List.take_length]; exact hL, by rw [List.take_length], Grow.refl _ _⟩ (fun k Γ' L' J hJ hI => ?_)
  obtain ⟨rfl, hk, h1, h2, g⟩ := hI
  have hv : eVar i Γ' L' = .val (.loc m) L' := by unfold eVar; rw [hΓ]
  have hv2 : ∀ X, eVar i Γ' X = .val (.loc m) X := fun X => by unfold eVar; rw [hΓ]
  have g1 : Grow m L (L' ++ [.lst []]) := g.trans Grow.app
  have q1 := encF.eqL (as := ps.take k) (bs := []) (get_app (X := [.lst []]) h1) (get_last (L := L') (c := .lst []))
  have h3 := get_app (X := [.lst []]) h1
  generalize hX : L' ++ [Cell.lst []] = L1 at *
  cases k with
  | zero =>
    simp [hΓ, hX, q1.2]
    refine h _ ?_ g1
    rw [h3, ← h2, List.take_zero]; rfl
  | succ k =>
    have hk' : k < ps.length := by omega
    have ne2 : ps ≠ [] := by intro z; subst z; simp at hk'
    rw [take_snoc hk'] at h3
    have i3 := items_loc h3
    have a3 : atI ((ps.take k ++ [ps[k]]).map fr) (-1) = some (fr ps[k]) := by rw [List.map_append]; exact atI_m1 _ _
    have fx : fIx (.loc m) (.int (-1)) L1 = .val (fr ps[k]) L1 := fIx_listS (by rw [itemsT_loc]; exact i3) a3
    simp [hΓ, hX, q1.2, ne2, fx]
    refine wp_wh (fun z => ?_) (fun z => ?_)
    · have z0 : ps[k] = 0 := z
      simp [hΓ, h3]
      rw [List.map_append] at h3
      have mp := mPop_eq h3
      rw [mp]
      refine hJ k _ _ (by omega) ⟨rfl, by omega, get_set h3, ?_, ⟨by simpa using g1.le, fun j hj hjm => by rw [List.getElem?_set_ne (Ne.symm hjm)]; exact g1.at_ j hj hjm⟩⟩
      rw [← h2, take_snoc hk', z0, trim_snoc0]
    · have z0 : ps[k] ≠ 0 := z
      refine h _ ?_ g1
      rw [h3, ← h2, take_snoc hk', trim_snoc z0]
theorem rat_pos {a b : Int} (ha : 0 < a) (hb : 0 < b) : 0 < Rat.divInt a b := by
  have := divInt_lt (a := 0) (b := 1) (c := a) (d := b) (by omega) hb (by omega)
  rwa [divInt_1] at this
theorem divInt_sz {a b : Int} {n : Nat} (hb : b ≠ 0) (h1 : a.natAbs < 2 ^ n) (h2 : b.natAbs < 2 ^ n) : Sz n (Rat.divInt a b) := sz_divInt hb h1 h2
theorem law_small {L : Lh} {n : Nat} {Q : D → Lh → Prop} {E : Str → Lh → Prop} (hp : PotAt L n) (h : ∀ q L', Sz 5 q → Grow n L L' → PotAt L' n → Q (fr q) L') : wpR (fn_law_small [.loc n] L) Q E := by
  unfold fn_law_small d_law_small
  refine wp_run rfl ?_
  simp
  refine law_draw (m := 19) hp (by decide) (by decide) fun a L1 a0 a1 g1 p1 => ?_
  simp
  refine law_draw (m := 3) p1 (by decide) (by decide) fun b L2 b0 b1 g2 p2 => ?_
  have hb : 1 + b ≠ 0 := by omega
  simp [fn_law_fraction_eq _ hb]
  exact wp_truncG (by simp) (g1.trans g2) p2 hp.lt fun L'' g p => h _ _ (divInt_sz hb (by omega) (by omega)) g p
theorem law_light {L : Lh} {n : Nat} {Q : D → Lh → Prop} {E : Str → Lh → Prop} (hp : PotAt L n) (h : ∀ q L', Sz 5 q → 0 < q → Grow n L L' → PotAt L' n → Q (fr q) L') : wpR (fn_law_light [.loc n] L) Q E := by
  unfold fn_law_light d_law_light
  refine wp_run rfl ?_
  simp
  refine law_draw (m := 2) hp (by decide) (by decide) fun a L1 a0 a1 g1 p1 => ?_
  simp
  refine wp_if (fun z => ?_) (fun z => ?_)
  · have e1 : D.tup [.int 1, .int 1] = fr 1 := rfl
    simp [e1]
    exact wp_truncG (by simp) g1 p1 hp.lt fun L'' g p => h _ _ (sz1.mono (by omega)) (by decide) g p
  · simp
    refine law_draw (m := 9) p1 (by decide) (by decide) fun b L2 b0 b1 g2 p2 => ?_
    simp
    refine law_draw (m := 9) p2 (by decide) (by decide) fun c L3 c0 c1 g3 p3 => ?_
    have hc : 1 + c ≠ 0 := by omega
    simp [fn_law_fraction_eq _ hc]
    exact wp_truncG (by simp) ((g1.trans g2).trans g3) p3 hp.lt fun L'' g p => h _ _ (divInt_sz hc (by omega) (by omega)) (rat_pos (by omega) (by omega)) g p
theorem law_value {L : Lh} {n : Nat} {Q : D → Lh → Prop} {E : Str → Lh → Prop} (hp : PotAt L n) (h : ∀ q L', Sz 41 q → Grow n L L' → PotAt L' n → Q (fr q) L') : wpR (fn_law_value [.loc n] L) Q E := by
  have p12 : CPow 10 12 := ⟨by decide, by decide, by decide⟩
  have c2 : CMulX 2 1000000000000 := cmulS (by decide) (by decide)
  unfold fn_law_value d_law_value
  refine wp_run rfl ?_
  simp
  refine law_draw (m := 4) hp (by decide) (by decide) fun a L1 a0 a1 g1 p1 => ?_
  simp
  refine wp_if (fun z => ?_) (fun z => ?_)
  · simp [p12, c2]
    refine law_draw (m := 1999999999999) p1 (by decide) (by decide) fun b L2 b0 b1 g2 p2 => ?_
    simp [p12]
    refine law_draw (m := 999999999999) p2 (by decide) (by decide) fun c L3 c0 c1 g3 p3 => ?_
    have hc : 1 + c ≠ 0 := by omega
    simp [fn_law_fraction_eq _ hc]
    exact wp_truncG (by simp) ((g1.trans g2).trans g3) p3 hp.lt fun L'' g p => h _ _ (divInt_sz hc (by omega) (by omega)) g p
  · simp
    refine wp_if (fun z => ?_) (fun z => ?_)
    · simp
      refine law_draw (m := 199) p1 (by decide) (by decide) fun b L2 b0 b1 g2 p2 => ?_
      simp
      refine law_draw (m := 12) p2 (by decide) (by decide) fun c L3 c0 c1 g3 p3 => ?_
      have hc : 1 + c ≠ 0 := by omega
      simp [fn_law_fraction_eq _ hc]
      exact wp_truncG (by simp) ((g1.trans g2).trans g3) p3 hp.lt fun L'' g p => h _ _ (divInt_sz hc (by omega) (by omega)) g p
    · simp
      refine law_draw (m := 9) p1 (by decide) (by decide) fun b L2 b0 b1 g2 p2 => ?_
      simp [fr_irat]
      exact wp_truncG (by simp) (g1.trans g2) p2 hp.lt fun L'' g p => h _ _ (sz_int (by omega) (by omega)) g p
theorem law_weight {L : Lh} {n : Nat} {Q : D → Lh → Prop} {E : Str → Lh → Prop} (hp : PotAt L n) (h : ∀ q L', Sz 21 q → 0 < q → Grow n L L' → PotAt L' n → Q (fr q) L') : wpR (fn_law_weight [.loc n] L) Q E := by
  have p6 : CPow 10 6 := ⟨by decide, by decide, by decide⟩
  unfold fn_law_weight d_law_weight
  refine wp_run rfl ?_
  simp
  refine law_draw (m := 3) hp (by decide) (by decide) fun a L1 a0 a1 g1 p1 => ?_
  simp
  refine wp_if (fun z => ?_) (fun z => ?_)
  · have e1 : D.tup [.int 1, .int 1] = fr 1 := rfl
    simp [e1]
    exact wp_truncG (by simp) g1 p1 hp.lt fun L'' g p => h _ _ (sz1.mono (by omega)) (by decide) g p
  · have fin : ∀ m : Int, (m = 9 ∨ m = 999999) → wpS (sRet (eCall fn_law_fraction (aCons (eOp fAdd (eC (.int 1)) (eCall fn_law_draw (aCons (eVar 0) (aCons (eVar 2) aNil)))) (aCons (eOp fAdd (eC (.int 1)) (eCall fn_law_draw (aCons (eVar 0) (aCons (eVar 2) aNil)))) aNil))) [some (.loc n), some (.int a), some (.int m)] (L1 ++ [.lst [.int 9, .int 999999]])) (Po.fn L Q E) := fun m hm => by
      simp
      refine law_draw (m := m) p1.app (by omega) (by omega) fun b L2 b0 b1 g2 p2 => ?_
      simp
      refine law_draw (m := m) p2 (by omega) (by omega) fun c L3 c0 c1 g3 p3 => ?_
      have hc : 1 + c ≠ 0 := by omega
      simp [fn_law_fraction_eq _ hc]
      exact wp_truncG (by simp) (((g1.trans Grow.app).trans g2).trans g3) p3 hp.lt fun L'' g p => h _ _ (divInt_sz hc (by omega) (by omega)) (rat_pos (by omega) (by omega)) g p
    have : a = 1 ∨ a = 2 := by omega
    rcases this with rfl | rfl
    · simp [p6, fIx]; have := fin 9 (.inl rfl); simpa using this
    · simp [p6, fIx]; have := fin 999999 (.inr rfl); simpa using this
theorem law_few_numbers {L : Lh} {n : Nat} {many : Int} {Q : D → Lh → Prop} {E : Str → Lh → Prop} (hp : PotAt L n) (hm0 : 0 ≤ many) (hm : many ≤ 12)
    (h : ∀ ps m L', L'[m]? = some (.lst (ps.map fr)) → L.length ≤ m → Grow n L L' → PotAt L' n → (ps.length : Int) = many → Rise ps → SzP 8 ps → Q (.loc m) L') : wpR (fn_law_few_numbers [.loc n, .int many] L) Q E := by
  obtain ⟨many, rfl⟩ := Int.eq_ofNat_of_zero_le hm0
  have hn := hp.lt
  have hne : L.length ≠ n := by omega
  unfold fn_law_few_numbers d_law_few_numbers
  refine wp_run rfl ?_
  simp
  refine law_draw (m := 3) hp (by decide) (by decide) fun b L1 b0 b1 g1 p1 => ?_
  simp
  refine law_draw (m := 5) p1 (by decide) (by decide) fun a L2 a0 a1 g2 p2 => ?_
  simp [show many ≤ 1000000 by omega]
  have hl2 : L.length ≤ L2.length := Nat.le_trans g1.le g2.le
  have hne2 : L2.length ≠ n := by omega
  refine wp_for (fun k Γ L' => ∃ (ps : List Rat) (at_ : Int), (∃ v5, Γ = [some (.loc n), some (.int many), some (.int (1 + b)), some (.int at_), some (.loc L2.length), v5]) ∧ L'[L2.length]? = some (.lst (ps.map fr)) ∧ Grow n L L' ∧ PotAt L' n ∧ ps.length = k ∧ Rise ps ∧ SzP 8 ps ∧ at_.natAbs ≤ 20 + k * 2 ∧ ∀ i, i < ps.length → at0 ps i < Rat.divInt at_ (1 + b))
    ⟨[], a - many, ⟨_, rfl⟩, by simp, (g1.trans g2).trans Grow.app, p2.app, rfl, Rise.nil, szP_nil, by omega, by simp⟩ (fun _ _ _ _ _ => trivial) (fun k hk Γ L3 J hJ hI => ?_) (fun Γ L3 hI => ?_)
  · obtain ⟨ps, at_, ⟨v5, rfl⟩, h1, g3, p3, hl, hr, hs, hab, hlt⟩ := hI
    have hk' : k < many := by simpa using hk
    have hbn : 1 + b ≠ 0 := by omega
    simp [h1, fn_law_fraction_eq _ hbn]
    rw [mAppend_eq h1 (by simp; omega), map_snoc]
    simp
    have h3 := get_set (d := .lst ((ps ++ [Rat.divInt at_ (1 + b)]).map fr)) h1
    refine law_draw (m := 2) (p3.set hne2) (by decide) (by decide) fun d L4 d0 d1 g4 p4 => ?_
    simp
    have e0 : ps.map fr ++ [fr (Rat.divInt at_ (1 + b))] = (ps ++ [Rat.divInt at_ (1 + b)]).map fr := map_snoc
    rw [e0] at g4
    refine hJ _ _ ⟨ps ++ [Rat.divInt at_ (1 + b)], at_ + 1 + d, ⟨_, rfl⟩, g4.keep h3 hne2, (g3.set hl2).trans g4, p4, by simp [hl], hr.snoc hlt, hs.snoc (divInt_sz hbn (by omega) (by omega)), by omega, fun i hi => ?_⟩
    have q : Rat.divInt at_ (1 + b) < Rat.divInt (at_ + 1 + d) (1 + b) := divInt_lt (by omega) (by omega) (Int.mul_lt_mul_of_pos_right (by omega) (by omega))
    simp at hi
    by_cases e : i = ps.length
    · subst e; rw [at0_snoc_eq]; exact q
    · rw [at0_snoc_lt (by omega)]
      have := hlt i (by omega)
      grind
  · obtain ⟨ps, at_, ⟨v5, rfl⟩, h1, g3, p3, hl, hr, hs, hab, hlt⟩ := hI
    simp
    refine wp_truncGL hl2 h1 (closeds_frs _ _) g3 p3 hn fun m' L'' a b c d => h ps m' L'' b a c d ?_ hr hs
    simp at hl; omega
theorem law_poly {L : Lh} {n : Nat} {most : Int} {Q : D → Lh → Prop} {E : Str → Lh → Prop} (hp : PotAt L n) (hm0 : 0 ≤ most) (hm : most ≤ 20)
    (h : ∀ ps L', (ps.length : Int) ≤ most → SzP 5 ps → trim ps = ps → Grow n L L' → PotAt L' n → Q (pol ps) L') : wpR (fn_law_poly [.loc n, .int most] L) Q E := by
  have hn := hp.lt
  have hne : L.length ≠ n := by omega
  unfold fn_law_poly d_law_poly
  refine wp_run rfl ?_
  simp
  refine law_draw (m := most + 1) hp.app (by omega) (by omega) fun d L1 d0 d1 g1 p1 => ?_
  obtain ⟨d, rfl⟩ := Int.eq_ofNat_of_zero_le d0
  have h1 := g1.keep (get_last (L := L) (c := .lst [])) hne
  have g1' : Grow n L L1 := Grow.app.trans g1
  simp [show d ≤ 1000000 by omega]
  refine wp_for (fun k Γ L' => ∃ ps : List Rat, (∃ v3, Γ = [some (.loc n), some (.int most), some (.loc L.length), v3]) ∧ L'[L.length]? = some (.lst (ps.map fr)) ∧ Grow n L L' ∧ PotAt L' n ∧ ps.length = k ∧ SzP 5 ps) ⟨[], ⟨_, rfl⟩, by simpa using h1, g1', p1, rfl, szP_nil⟩ (fun _ _ _ _ _ => trivial) (fun k hk Γ L2 J hJ hI => ?_) (fun Γ L2 hI => ?_)
  · obtain ⟨ps, ⟨v3, rfl⟩, h2, g2, p2, hl, hs⟩ := hI
    have hk' : k < d := by simpa using hk
    simp [h2]
    refine law_small p2 fun q L3 sq g3 p3 => ?_
    have h3 := g3.keep h2 hne
    simp
    rw [mAppend_eq h3 (by simp; omega), map_snoc]
    exact hJ _ _ ⟨ps ++ [q], ⟨_, rfl⟩, get_set h3, (g2.trans g3).set (Nat.le_refl _), p3.set hne, by simp [hl], hs.snoc sq⟩
  · obtain ⟨ps, ⟨v3, rfl⟩, h2, g2, p2, hl, hs⟩ := hI
    simp at hl
    simp only [Po.seq_nx, wp_sSeq]
    refine strip_loop rfl h2 (by omega) fun L3 h3 g3 => ?_
    have e : D.tup ((trim ps).map fr) = pol (trim ps) := rfl
    have i3 := items_loc h3
    simp [i3, e]
    refine wp_truncG (by simp) (g2.over g3 (Nat.le_refl _)) (p2.grow g3 (Ne.symm hne)) hn fun L'' g p => h _ _ ?_ hs.trim (trim_trim _) g p
    have := trim_len ps
    omega
theorem fn_law_at_eq {n m : Nat} {ps : List Rat} {x : Rat} (L : Lh) (h1 : SzP n ps) (h2 : Sz m x) (hk : (ps.length + 1) * (n + m + 2) + 1 ≤ LIM) : fn_law_at [pol ps, fr x] L = .val (fr (ev ps x)) L := by
  have e0 : D.tup [.int 0, .int 1] = fr 0 := rfl
  rw [Nat.succ_mul] at hk
  apply wpR.eq
  unfold fn_law_at d_law_at
  refine wp_run rfl ?_
  simp [e0]
  refine wp_for (fun i Γ L' => L' = L ∧ ∃ v, Γ = [some (pol ps), some (fr x), some (fr (ev (ps.drop (ps.length - i)) x)), v]) ⟨rfl, _, by simp; rfl⟩ (fun _ _ _ _ _ => trivial) (fun i hi Γ L' J hJ h => ?_) (fun Γ L' h => ?_)
  · obtain ⟨rfl, v, rfl⟩ := h
    have hi' : i < ps.length := by simpa using hi
    have s1 : Sz (ps.length * (n + m + 2) + 1) (ev (ps.drop (ps.length - i)) x) := ev_sz (fun p hp => h1 p (List.mem_of_mem_drop hp)) h2 (by simp)
    have hp : Sz n (ps[ps.length - 1 - i]'(by omega)) := h1 _ (List.getElem_mem _)
    have e1 := fn_law_times_eq L' (Fit.of s1 (by omega)) (Fit.of h2 (by omega))
    have e2 := fn_law_plus_eq L' (Fit.of (s1.mul h2) (by omega)) (Fit.of hp (by omega))
    have e3 : ev (ps.drop (ps.length - (i + 1))) x = ev (ps.drop (ps.length - i)) x * x + ps[ps.length - 1 - i]'(by omega) := by
      have : ps.length - (i + 1) < ps.length := by omega
      have e : ps.length - (i + 1) = ps.length - 1 - i := by omega
      rw [List.drop_eq_getElem_cons this, ev_cons, show ps.length - (i + 1) + 1 = ps.length - i by omega]
      simp only [e]
    simp [e1, e2]
    exact hJ _ _ ⟨rfl, _, by rw [e3]⟩
  · obtain ⟨rfl, v, rfl⟩ := h
    simp
theorem spots_of {R : Rat → Rat → Prop} : ∀ {ys : List D} {xs : List Rat}, ys.length = xs.length → (∀ k (h : k < ys.length), ∃ v w, ys[k] = spD ⟨at0 xs k, v, w⟩ ∧ R v w) → ∃ t : List Spo, ys = t.map spD ∧ xsO t = xs ∧ ∀ s ∈ t, R s.y s.w
  | [], [], _, _ => ⟨[], rfl, rfl, fun _ h => nomatch h⟩
  | y :: ys, x :: xs, hl, h => by
    obtain ⟨v, w, e, hr⟩ := h 0 (by simp)
    obtain ⟨t, h1, h2, h3⟩ := spots_of (ys := ys) (xs := xs) (by simpa using hl) fun k hk => h (k + 1) (by simpa using hk)
    refine ⟨⟨x, v, w⟩ :: t, ?_, ?_, ?_⟩
    · rw [h1, List.map_cons]
      have e2 : y = spD ⟨x, v, w⟩ := e
      rw [e2]
    · show x :: xsO t = x :: xs
      rw [h2]
    · intro s hs
      rcases List.mem_cons.mp hs with rfl | hs
      · exact hr
      · exact h3 s hs
theorem fr_neg (p : Rat) : D.tup [.int (-p.num), .int p.den] = fr (-p) := by unfold fr; rw [Rat.neg_num, Rat.neg_den]
theorem sp_mk (x y w : Rat) : D.tup [fr x, fr y, fr w] = spD ⟨x, y, w⟩ := rfl
theorem map_snocS {t : List Spo} {s : Spo} : t.map spD ++ [spD s] = (t ++ [s]).map spD := by simp
theorem xsO_snoc {t : List Spo} {s : Spo} : xsO (t ++ [s]) = xsO t ++ [s.x] := by simp [xsO]
theorem ysO_snoc {t : List Spo} {s : Spo} : ysO (t ++ [s]) = ysO t ++ [s.y] := by simp [ysO]
theorem wsO_snoc {t : List Spo} {s : Spo} : wsO (t ++ [s]) = wsO t ++ [s.w] := by simp [wsO]
/-- level tells what is right -/
theorem level_is {t : List Spo} {q : List Rat} {g : Rat} (hr : Rise (xsO t)) (hw : WPos t) (h2 : 2 ≤ t.length) (hq : q.length ≤ t.length - 1) (hq2 : trim q = q) (h : ∀ k, k < t.length → at0 (ysO t) k = ev q (at0 (xsO t) k) + sg k * g / at0 (wsO t) k) : lvPoly t = q ∧ firstE t = g := by
  have := lv_unique (q := q) (g := g) hr hw h2 hq (fun k hk => by rw [h k hk]; grind)
  exact ⟨by rw [← this.2, hq2], this.1.symm⟩
/-- a told level, told anew: alike -/
theorem ne_level {L : Lh} {q : List Rat} {g : Rat} : fNe (.tup [pol q, fr g]) (.tup [pol q, fr g]) L = .val (.bl false) L := by
  have h := (encP (encL encF) encF).ne (L := L) (a := (q, g)) (b := (q, g))
  rw [decide_eq_true rfl] at h
  exact h
theorem eqS_self {L : Lh} {n m : Nat} {t : List Spo} (h1 : L[n]? = some (.lst (t.map spD))) (h2 : L[m]? = some (.lst (t.map spD))) : fNe (.loc n) (.loc m) L = .val (.bl false) L := (encS.eqS h1 h2).2
theorem eqF_self {L : Lh} {n m : Nat} {t : List Rat} (h1 : L[n]? = some (.lst (t.map fr))) (h2 : L[m]? = some (.lst (t.map fr))) : fEq (.loc n) (.loc m) L = .val (.bl true) L ∧ fNe (.loc n) (.loc m) L = .val (.bl false) L := encF.eqS h1 h2
theorem range_map_fr (f : Nat → Rat) (n : Nat) : (List.range n).map (fun k => fr (f k)) = ((List.range n).map f).map fr := by simp
noncomputable def d_law_numbers : S3 :=
    (sSeq (sSet 2 (eCall fn_law_draw (aCons (eVar 0) (aCons (eC (.int 4)) aNil))))
    (sSeq (sIf (tE (eOp fEq (eVar 2) (eC (.int 2)))) (sSeq (sSet 3 (eLst aNil))
    (sSeq (sFor (iR1 (aCons (eVar 1) aNil)) (gN 4) (sSeq (sSet 5 (eOp fAdd (eC (.int 1)) (eCall fn_law_draw (aCons (eVar 0) (aCons (eOp fPow (eC (.int 10)) (eC (.int 11))) aNil)))))
    (sDrop (eMt "list" mAppend (eVar 3) (aCons (eCall fn_law_fraction (aCons (eOp fAdd (eOp fMul (eOp fSub (eVar 4) (eC (.int 4))) (eVar 5)) (eCall fn_law_draw (aCons (eVar 0) (aCons (eVar 5) aNil)))) (aCons (eVar 5) aNil))) aNil)))))
    (sRet (eVar 3)))) sNext)
    (sSeq (sSet 6 (eOp fIx (eLst (aCons (eC (.int 1)) (aCons (eOp fAdd (eC (.int 1)) (eCall fn_law_draw (aCons (eVar 0) (aCons (eOp fSub (eOp fPow (eC (.int 10)) (eC (.int 12))) (eC (.int 1))) aNil)))) (aCons (eC (.int 1)) (aCons (eOp fAdd (eC (.int 1)) (eCall fn_law_draw (aCons (eVar 0) (aCons (eC (.int 6)) aNil)))) aNil))))) (eVar 2)))
    (sSeq (sSet 7 (eOp fIx (eLst (aCons (eOp fSub (eCall fn_law_draw (aCons (eVar 0) (aCons (eC (.int 19)) aNil))) (eC (.int 9))) (aCons (eOp fSub (eCall fn_law_draw (aCons (eVar 0) (aCons (eOp fPow (eC (.int 10)) (eC (.int 11))) aNil))) (eOp fMul (eC (.int 5)) (eOp fPow (eC (.int 10)) (eC (.int 11))))) (aCons (eC (.int 0)) (aCons (eOp fSub (eCall fn_law_draw (aCons (eVar 0) (aCons (eC (.int 41)) aNil))) (eC (.int 20))) aNil))))) (eVar 2)))
    (sSeq (sSet 3 (eLst aNil))
    (sSeq (sFor (iR1 (aCons (eVar 1) aNil)) (gN 4) (sSeq (sDrop (eMt "list" mAppend (eVar 3) (aCons (eCall fn_law_fraction (aCons (eVar 7) (aCons (eVar 6) aNil))) aNil)))
    (sSet 7 (eOp fAdd (eOp fAdd (eVar 7) (eC (.int 1))) (eCall fn_law_draw (aCons (eVar 0) (aCons (eOp fIx (eLst (aCons (eC (.int 3)) (aCons (eOp fPow (eC (.int 10)) (eC (.int 11))) (aCons (eC (.int 1)) (aCons (eC (.int 5)) aNil))))) (eVar 2)) aNil)))))))
    (sRet (eVar 3))))))))
noncomputable def fn_law_numbers : Fn3 := run3 2 8 d_law_numbers
theorem numbers_loop3 {L0 L : Lh} {n m many : Nat} {way a b S : Int} {v4 : Option D} {P : Po} (hw : 0 ≤ way) (hS : L2.atI [D.int 3, D.int 100000000000, D.int 1, D.int 5] way = some (.int S)) (hS0 : 0 < S) (hS1 : S ≤ 100000000000) (hb0 : 0 < b) (hb1 : b < 2 ^ 44) (ha : a.natAbs < 10 ^ 12) (hm : many ≤ 8) (hp : PotAt L n) (hn : n < L0.length) (g0 : Grow n L0 L) (hL : L0.length ≤ m) (hLm : L[m]? = some (.lst []))
    (h : ∀ ps Γ L', L'[m]? = some (.lst (ps.map fr)) → Grow n L0 L' → PotAt L' n → ps.length = many → Rise ps → SzP 44 ps → (∃ v4 v6, Γ = [some (.loc n), some (.int many), some (.int way), some (.loc m), v4, none, some (.int b), v6]) → P.nx Γ L') :
    wpS (forL (fun _ => True) (gN 4) (sSeq (sDrop (eMt "list" mAppend (eVar 3) (aCons (eCall fn_law_fraction (aCons (eVar 7) (aCons (eVar 6) aNil))) aNil)))
    (sSet 7 (eOp fAdd (eOp fAdd (eVar 7) (eC (.int 1))) (eCall fn_law_draw (aCons (eVar 0) (aCons (eOp fIx (eLst (aCons (eC (.int 3)) (aCons (eOp fPow (eC (.int 10)) (eC (.int 11))) (aCons (eC (.int 1)) (aCons (eC (.int 5)) aNil))))) (eVar 2)) aNil)))))) (rngD 0 many) [some (.loc n), some (.int many), some (.int way), some (.loc m), v4, none, some (.int b), some (.int a)] L) P := by
  have p11 : CPow 10 11 := ⟨by decide, by decide, by decide⟩
  have hne : m ≠ n := by omega
  refine wp_for (fun k Γ L' => ∃ (ps : List Rat) (at_ : Int), (∃ v4, Γ = [some (.loc n), some (.int many), some (.int way), some (.loc m), v4, none, some (.int b), some (.int at_)]) ∧ L'[m]? = some (.lst (ps.map fr)) ∧ Grow n L0 L' ∧ PotAt L' n ∧ ps.length = k ∧ Rise ps ∧ SzP 44 ps ∧ at_.natAbs ≤ 10 ^ 12 + k * 10 ^ 11 ∧ ∀ i, i < ps.length → at0 ps i < Rat.divInt at_ b)
    ⟨[], a, ⟨_, rfl⟩, hLm, g0, hp, rfl, Rise.nil, szP_nil, by omega, by simp⟩ (fun _ _ _ _ _ => trivial) (fun k hk Γ L1 J hJ hI => ?_) (fun Γ L1 hI => ?_)
  · obtain ⟨ps, at_, ⟨v4, rfl⟩, h1, g1, p1, hl, hr, hs, hab, hlt⟩ := hI
    have hk' : k < many := by simpa using hk
    have hbn : b ≠ 0 := by omega
    simp [h1, fn_law_fraction_eq _ hbn]
    rw [mAppend_eq h1 (by simp; omega)]
    simp [p11, hS, fIx]
    have h3 : (L1.set m (.lst ((ps ++ [Rat.divInt at_ b]).map fr)))[m]? = some (.lst ((ps ++ [Rat.divInt at_ b]).map fr)) := List.getElem?_set_self (lt_of_get h1)
    refine law_draw (p1.set hne).app hS0 (by omega) fun d L2 d0 d1 g2 p2 => ?_
    have e0 : ps.map fr ++ [fr (Rat.divInt at_ b)] = (ps ++ [Rat.divInt at_ b]).map fr := map_snoc
    simp
    refine hJ _ _ ⟨ps ++ [Rat.divInt at_ b], at_ + 1 + d, ⟨_, rfl⟩, ?_, (g1.set hL).trans (Grow.app.trans g2), p2, by simp [hl], ?_⟩
    · rw [e0] at g2
      exact g2.keep (get_app h3) hne
    · have sq := sz_divInt (a := at_) (b := b) (n := 44) (m := 44) (by omega) (by unfold Bd; omega) (by unfold Bd; omega)
      refine ⟨hr.snoc hlt, hs.snoc sq, ?_, fun i hi => ?_⟩
      · have : (k + 1) * 10 ^ 11 = k * 10 ^ 11 + 10 ^ 11 := Nat.succ_mul _ _
        omega
      · have q : Rat.divInt at_ b < Rat.divInt (at_ + 1 + d) b := divInt_lt hb0 hb0 (Int.mul_lt_mul_of_pos_right (by omega) hb0)
        simp at hi
        by_cases e : i = ps.length
        · subst e; rw [at0_snoc_eq]; exact q
        · rw [at0_snoc_lt (by omega)]
          have := hlt i (by omega)
          grind
  · obtain ⟨ps, at_, ⟨v4, rfl⟩, h1, g1, p1, hl, hr, hs, hab, hlt⟩ := hI
    exact h ps _ L1 h1 g1 p1 (by simpa using hl) hr hs ⟨_, _, rfl⟩
theorem law_numbers {L : Lh} {n : Nat} {many : Int} {Q : D → Lh → Prop} {E : Str → Lh → Prop} (hp : PotAt L n) (hm0 : 0 ≤ many) (hm : many ≤ 8)
    (h : ∀ ps m L', L'[m]? = some (.lst (ps.map fr)) → L.length ≤ m → Grow n L L' → PotAt L' n → (ps.length : Int) = many → Rise ps → SzP 44 ps → Q (.loc m) L') : wpR (fn_law_numbers [.loc n, .int many] L) Q E := by
  obtain ⟨many, rfl⟩ := Int.eq_ofNat_of_zero_le hm0
  have hn := hp.lt
  have hne : L.length ≠ n := by omega
  have p12 : CPow 10 12 := ⟨by decide, by decide, by decide⟩
  have p11 : CPow 10 11 := ⟨by decide, by decide, by decide⟩
  have c5 : CMulX 5 100000000000 := cmulS (by decide) (by decide)
  unfold fn_law_numbers d_law_numbers
  refine wp_run rfl ?_
  simp
  refine law_draw hp (by decide) (by decide) fun way L1 w0 w1 g1 p1 => ?_
  have tail : ∀ ps m L', L'[m]? = some (.lst (ps.map fr)) → L.length ≤ m → Grow n L L' → PotAt L' n → (ps.length : Int) = many → Rise ps → SzP 44 ps → wpR (trunc L (.loc m) L') Q E := fun ps m L' a b c d e f g => wp_truncGL b a (closeds_frs _ _) c d hn fun m' L'' a' b' c' d' => h ps m' L'' b' a' c' d' e f g
  simp
  refine wp_if (fun h2 => ?_) (fun h2 => ?_)
  · subst h2
    simp [show many ≤ 1000000 by omega]
    have hne1 : L1.length ≠ n := by have := g1.le; omega
    have hl1 := g1.le
    refine wp_for (fun k Γ L' => ∃ ps : List Rat, (∃ v4 v5, Γ = [some (.loc n), some (.int many), some (.int 2), some (.loc L1.length), v4, v5, none, none]) ∧ L'[L1.length]? = some (.lst (ps.map fr)) ∧ Grow n L L' ∧ PotAt L' n ∧ ps.length = k ∧ Rise ps ∧ SzP 44 ps ∧ ∀ i, i < ps.length → at0 ps i < (((k : Int) - 4 : Int) : Rat))
      ⟨[], ⟨_, _, rfl⟩, by simp, g1.trans Grow.app, p1.app, rfl, Rise.nil, szP_nil, by simp⟩ (fun _ _ _ _ _ => trivial) (fun k hk Γ L2 J hJ hI => ?_) (fun Γ L2 hI => ?_)
    · obtain ⟨ps, ⟨v4, v5, rfl⟩, h1, g2, p2, hl, hr, hs, hb⟩ := hI
      have hk' : k < many := by simpa using hk
      simp [p11]
      refine law_draw (m := 100000000000) p2 (by decide) (by decide) fun b L3 b0 b1 g3 p3 => ?_
      have h3 := g3.keep h1 hne1
      have m1 : CMulX ((k : Int) - 4) (1 + b) := cmulS (by omega) (by omega)
      have hb0 : 1 + b ≠ 0 := by omega
      simp [h3, m1]
      refine law_draw (m := 1 + b) p3 (by omega) (by omega) fun u L4 u0 u1 g4 p4 => ?_
      have h4 := g4.keep h3 hne1
      simp [fn_law_fraction_eq _ hb0]
      have hwb : (((k : Int) - 4) * (1 + b)).natAbs ≤ 5 * 100000000000 := by rw [Int.natAbs_mul]; exact Nat.mul_le_mul (by omega) (by omega)
      obtain ⟨q1, q2⟩ := rat_between (w := (k : Int) - 4) (u := u) (b := 1 + b) (by omega) u0 u1
      have sq := sz_divInt (a := ((k : Int) - 4) * (1 + b) + u) (b := 1 + b) (n := 44) (m := 44) (by omega) (by unfold Bd; omega) (by unfold Bd; omega)
      generalize Rat.divInt (((k : Int) - 4) * (1 + b) + u) (1 + b) = q at *
      rw [mAppend_eq h4 (by simp; omega), map_snoc]
      have e : (((k : Int) - 4 + 1 : Int) : Rat) = ((((k + 1 : Nat) : Int) - 4 : Int) : Rat) := by congr 1; omega
      rw [e] at q2
      have := rise_step hr hb q1 q2
      exact hJ _ _ ⟨ps ++ [q], ⟨_, _, rfl⟩, get_set h4, ((g2.trans g3).trans g4).set hl1, p4.set hne1, by simp [hl], this.1, hs.snoc sq, this.2⟩
    · obtain ⟨ps, ⟨v4, v5, rfl⟩, h1, g2, p2, hl, hr, hs, hb⟩ := hI
      simp
      exact tail ps _ L2 h1 hl1 g2 p2 (by simp at hl; omega) hr hs
  · simp [h2, p12, p11, c5]
    refine law_draw (m := 999999999999) p1 (by decide) (by decide) fun b1 L2 b10 b11 g2 p2 => ?_
    simp
    refine law_draw (m := 6) p2 (by decide) (by decide) fun b3 L3 b30 b31 g3 p3 => ?_
    simp [fIx]
    have g23 := (g1.trans g2).trans g3
    have h013 : way = 0 ∨ way = 1 ∨ way = 3 := by omega
    rcases h013 with rfl | rfl | rfl
    · simp [fIx]
      refine law_draw (m := 19) p3.app (by decide) (by decide) fun a1 L4 a10 a11 g4 p4 => ?_
      simp [p11]
      refine law_draw (m := 100000000000) p4 (by decide) (by decide) fun a2 L5 a20 a21 g5 p5 => ?_
      simp [p11, c5]
      refine law_draw (m := 41) p5 (by decide) (by decide) fun a3 L6 a30 a31 g6 p6 => ?_
      simp [fIx, show many ≤ 1000000 by omega]
      refine numbers_loop3 (S := 3) (L0 := L) (by omega) (by simp) (by decide) (by decide) (by decide) (by decide) (by omega) (by omega) p6.app hn ((((g23.trans Grow.app).trans g4).trans g5).trans g6 |>.trans Grow.app) ?_ (by simp) fun ps Γ L' a b c d e f hΓ => ?_
      · have := g23.le; have := g4.le; have := g5.le; have := g6.le
        simp at *; omega
      · obtain ⟨v4, v6, rfl⟩ := hΓ
        simp
        refine tail ps _ L' (by simpa using a) ?_ b c (by omega) e f
        have := g23.le; have := g4.le; have := g5.le; have := g6.le
        simp at *; omega
    · simp [fIx]
      refine law_draw (m := 19) p3.app (by decide) (by decide) fun a1 L4 a10 a11 g4 p4 => ?_
      simp [p11]
      refine law_draw (m := 100000000000) p4 (by decide) (by decide) fun a2 L5 a20 a21 g5 p5 => ?_
      simp [p11, c5]
      refine law_draw (m := 41) p5 (by decide) (by decide) fun a3 L6 a30 a31 g6 p6 => ?_
      simp [fIx, show many ≤ 1000000 by omega]
      refine numbers_loop3 (S := 100000000000) (L0 := L) (by omega) (by simp) (by decide) (by decide) (by omega) (by omega) (by omega) (by omega) p6.app hn ((((g23.trans Grow.app).trans g4).trans g5).trans g6 |>.trans Grow.app) ?_ (by simp) fun ps Γ L' a b c d e f hΓ => ?_
      · have := g23.le; have := g4.le; have := g5.le; have := g6.le
        simp at *; omega
      · obtain ⟨v4, v6, rfl⟩ := hΓ
        simp
        refine tail ps _ L' (by simpa using a) ?_ b c (by omega) e f
        have := g23.le; have := g4.le; have := g5.le; have := g6.le
        simp at *; omega
    · simp [atI_3, fIx]
      refine law_draw (m := 19) p3.app (by decide) (by decide) fun a1 L4 a10 a11 g4 p4 => ?_
      simp [p11]
      refine law_draw (m := 100000000000) p4 (by decide) (by decide) fun a2 L5 a20 a21 g5 p5 => ?_
      simp [p11, c5]
      refine law_draw (m := 41) p5 (by decide) (by decide) fun a3 L6 a30 a31 g6 p6 => ?_
      simp [fIx, atI_3, show many ≤ 1000000 by omega]
      refine numbers_loop3 (S := 5) (L0 := L) (by omega) (by simp [atI_3]) (by decide) (by decide) (by omega) (by omega) (by omega) (by omega) p6.app hn ((((g23.trans Grow.app).trans g4).trans g5).trans g6 |>.trans Grow.app) ?_ (by simp) fun ps Γ L' a b c d e f hΓ => ?_
      · have := g23.le; have := g4.le; have := g5.le; have := g6.le
        simp at *; omega
      · obtain ⟨v4, v6, rfl⟩ := hΓ
        simp
        refine tail ps _ L' (by simpa using a) ?_ b c (by omega) e f
        have := g23.le; have := g4.le; have := g5.le; have := g6.le
        simp at *; omega
noncomputable def d_law_errors : S3 :=
    (sRet (eLc (iLT (eVar 0)) (gT 3 (gCons3 (gN 2) (gCons3 (gN 3) (gCons3 (gN 4) gNil3)))) tTrue (eCall fn_law_times (aCons (eVar 4) (aCons (eCall fn_law_less (aCons (eVar 3) (aCons (eCall fn_law_at (aCons (eVar 1) (aCons (eVar 2) aNil))) aNil))) aNil))) [2, 3, 4]))
noncomputable def fn_law_errors : Fn3 := run3 2 5 d_law_errors
noncomputable def d_law_unsigned : S3 :=
    (sRet (eTup (aCons (eCall fAbs (aCons (eOp fIx (eVar 0) (eC (.int 0))) aNil)) (aCons (eOp fIx (eVar 0) (eC (.int 1))) aNil))))
noncomputable def fn_law_unsigned : Fn3 := run3 1 1 d_law_unsigned
noncomputable def d_law_is_poly : S3 :=
    (sSeq (sIf (tOr3 (tNot3 (tE (eCall fIsi (aCons (eVar 0) (aCons (eC (.val (.ty "tuple"))) aNil))))) (tE (eOp fGt (eCall fLen (aCons (eVar 0) aNil)) (eVar 1)))) (sRet (eC (.bl false))) sNext)
    (sRet (eAnd (eCall fAll (aCons (eLc (iLT (eVar 0)) (gN 2) tTrue (eCall fn_law_is_fraction (aCons (eVar 2) aNil)) [2]) aNil)) (eOr (eOp fEq (eVar 0) (eTup aNil)) (eOp fNe (eOp fIx (eOp fIx (eVar 0) (eUn fNeg (eC (.int 1)))) (eC (.int 0))) (eC (.int 0)))))))
noncomputable def fn_law_is_poly : Fn3 := run3 2 3 d_law_is_poly
noncomputable def d_law_reference : S3 :=
    (sRet (eLc (iLT (eCall fn_law_numbers (aCons (eVar 0) (aCons (eVar 1) aNil)))) (gN 2) tTrue (eTup (aCons (eVar 2) (aCons (eCall fn_law_value (aCons (eVar 0) aNil)) (aCons (eCall fn_law_weight (aCons (eVar 0) aNil)) aNil)))) [2]))
noncomputable def fn_law_reference : Fn3 := run3 2 3 d_law_reference
noncomputable def d_law_right : S3 :=
    (sSeq (sIf (tOr3 (tNot3 (tE (eCall fIsi (aCons (eVar 1) (aCons (eC (.val (.ty "tuple"))) aNil))))) (tOr3 (tE (eOp fNe (eCall fLen (aCons (eVar 1) aNil)) (eC (.int 2)))) (tNot3 (tE (eCall fn_law_is_fraction (aCons (eOp fIx (eVar 1) (eC (.int 1))) aNil)))))) (sRet (eC (.bl false))) sNext)
    (sSeq (sIf (tNot3 (tE (eCall fn_law_is_poly (aCons (eOp fIx (eVar 1) (eC (.int 0))) (aCons (eOp fSub (eCall fLen (aCons (eVar 0) aNil)) (eC (.int 1))) aNil))))) (sRet (eC (.bl false))) sNext)
    (sSeq (sSet 2 (eOp fIx (eVar 1) (eC (.int 1))))
    (sSeq (sSet 3 (eLc (iR1 (aCons (eCall fLen (aCons (eVar 0) aNil)) aNil)) (gN 4) tTrue (eOp fIx (eLst (aCons (eVar 2) (aCons (eTup (aCons (eUn fNeg (eOp fIx (eVar 2) (eC (.int 0)))) (aCons (eOp fIx (eVar 2) (eC (.int 1))) aNil))) aNil))) (eOp fMod (eVar 4) (eC (.int 2)))) [4]))
    (sRet (eOp fEq (eCall fn_law_errors (aCons (eVar 0) (aCons (eOp fIx (eVar 1) (eC (.int 0))) aNil))) (eVar 3)))))))
noncomputable def fn_law_right : Fn3 := run3 2 5 d_law_right
noncomputable def d_law : S3 :=
    (sSeq (sFor (iR1 (aCons (eCall fMax2 (aCons (eC (.int 1)) (aCons (eCall fMin2 (aCons (eCall fLen (aCons (eVar 0) aNil)) (aCons (eC (.int 4)) aNil))) aNil))) aNil)) (gN 1) (sSeq (sSet 2 (eCall fn_law_pot (aCons (eVar 0) (aCons (eVar 1) aNil))))
    (sSeq (sSet 3 (eCall fn_law_reference (aCons (eVar 2) (aCons (eOp fAdd (eC (.int 2)) (eCall fn_law_draw (aCons (eVar 2) (aCons (eC (.int 6)) aNil)))) aNil))))
    (sSeq (sSet 4 (eCall fList (aCons (eVar 3) aNil)))
    (sSeq (sSet 5 (eCall fn_level (aCons (eVar 4) aNil)))
    (sSeq (sIf (tOr3 (tE (eOp fNe (eVar 4) (eVar 3))) (tNot3 (tE (eCall fn_law_right (aCons (eVar 3) (aCons (eVar 5) aNil)))))) (sRet (eC (.bl false))) sNext)
    (sSeq (sIf (tOr3 (tE (eOp fNe (eCall fn_bound (aCons (eVar 4) aNil)) (eCall fn_law_unsigned (aCons (eOp fIx (eVar 5) (eC (.int 1))) aNil)))) (tOr3 (tE (eOp fNe (eVar 4) (eVar 3))) (tE (eOp fNe (eCall fn_level (aCons (eVar 3) aNil)) (eVar 5))))) (sRet (eC (.bl false))) sNext)
    (sSeq (sDrop (eMt0 "list" mReverse (eVar 4)))
    (sSeq (sDrop (eMt0 "list" mPop (eVar 4)))
    (sIf (tOr3 (tE (eOp fNe (eCall fn_level (aCons (eVar 3) aNil)) (eVar 5))) (tE (eOp fNe (eCall fn_bound (aCons (eVar 3) aNil)) (eCall fn_law_unsigned (aCons (eOp fIx (eVar 5) (eC (.int 1))) aNil))))) (sRet (eC (.bl false))) sNext))))))))))
    (sRet (eC (.bl true))))
noncomputable def fn_law : Fn3 := run3 1 6 d_law
theorem fn_law_unsigned_eq (L : Lh) (q : Rat) : fn_law_unsigned [fr q] L = .val (fr (rabs q)) L := by
  apply wpR.eq
  unfold fn_law_unsigned d_law_unsigned
  refine wp_run rfl ?_
  simp [fr_abs, abs_if]
theorem law_reference {L : Lh} {n : Nat} {many : Int} {Q : D → Lh → Prop} {E : Str → Lh → Prop} (hp : PotAt L n) (hm0 : 0 ≤ many) (hm : many ≤ 8)
    (h : ∀ (t : List Spo) m L', L'[m]? = some (.lst (t.map spD)) → L.length ≤ m → Grow n L L' → PotAt L' n → (t.length : Int) = many → Rise (xsO t) → SzT 44 t → WPos t → Q (.loc m) L') : wpR (fn_law_reference [.loc n, .int many] L) Q E := by
  have hn := hp.lt
  unfold fn_law_reference d_law_reference
  refine wp_run rfl ?_
  simp
  refine law_numbers hp hm0 hm fun xs m L1 h1 hml g1 p1 hl hr hs => ?_
  have hmn : m ≠ n := by omega
  simp [ltR_loc h1]
  refine wp_lcDraw (P := fun k y => ∃ v w, y = spD ⟨at0 xs k, v, w⟩ ∧ Sz 41 v ∧ Sz 21 w ∧ 0 < w) p1 (by simp; omega) (fun L' g => g.keep h1 hmn) (fun k hk ys L2 hy1 hy2 hl2 hL2 g2 p2 => ?_) (fun ys L2 hy1 hy2 hL2 g2 p2 => ?_)
  · have hk' : k < xs.length := by simpa using hk
    simp only [List.getElem_map, ← at0_lt hk']
    simp
    refine law_value p2 fun v L3 sv g3 p3 => ?_
    simp
    refine law_weight p3 fun w L4 sw w0 g4 p4 => ?_
    simp
    exact ⟨⟨v, w, sp_mk _ _ _, sv, sw, w0⟩, g3.trans g4, p4⟩
  · obtain ⟨t, e, ex, ht⟩ := spots_of (xs := xs) (R := fun v w => Sz 41 v ∧ Sz 21 w ∧ 0 < w) (by simpa using hy1) hy2
    subst e
    simp
    refine wp_truncGL (Nat.le_trans (Nat.le_of_lt hn) g1.le |> fun _ => g1.le) hL2 (encS.clos _ _) (g1.trans g2) p2 hn fun m' L'' a b c d => h t m' L'' b a c d ?_ (by rw [ex]; exact hr) ?_ (fun s hs' => (ht s hs').2.2)
    · have := congrArg List.length ex
      simp at this; omega
    · intro s hs'
      obtain ⟨a1, a2, a3⟩ := ht s hs'
      have : s.x ∈ xs := by rw [← ex]; exact List.mem_map.mpr ⟨s, hs', rfl⟩
      exact ⟨hs _ this, a1.mono (by omega), a2.mono (by omega)⟩
/-- the errors at a reference, as the law reckons them -/
theorem fn_law_errors_eq {L : Lh} {N M n : Nat} {t : List Spo} {q : List Rat} (ht : L[n]? = some (.lst (t.map spD))) (h : SzT N t) (hq : SzP M q) (hl : t.length ≤ 100) (hs : (q.length + 4) * (M + 2 * N + 6) + 10 ≤ LIM) :
    fn_law_errors [.loc n, pol q] L = .val (.loc L.length) (L ++ [.lst ((List.range t.length).map fun k => fr (at0 (wsO t) k * (at0 (ysO t) k - ev q (at0 (xsO t) k))))]) := by
  have key : wpR (fn_law_errors [.loc n, pol q] L) (fun d L' => d = .loc L.length ∧ L' = L ++ [.lst ((List.range t.length).map fun k => fr (at0 (wsO t) k * (at0 (ysO t) k - ev q (at0 (xsO t) k))))]) noE := by
    unfold fn_law_errors d_law_errors
    refine wp_run rfl ?_
    simp [ltR_loc ht]
    refine wp_lcMap (fun k => fr (at0 (wsO t) k * (at0 (ysO t) k - ev q (at0 (xsO t) k)))) (by simp; omega) (fun _ => get_app ht) (fun k hk acc => ?_) ?_
    · have hk' : k < t.length := by simpa using hk
      obtain ⟨a1, a2, a3⟩ := h _ (List.getElem_mem hk')
      have m1 : (q.length + 1) * (M + N + 2) ≤ (q.length + 4) * (M + 2 * N + 6) := Nat.mul_le_mul (by omega) (by omega)
      have m2 : q.length * (M + N + 2) + (2 * N + 6) ≤ (q.length + 4) * (M + 2 * N + 6) := by
        have := Nat.mul_le_mul (show q.length ≤ q.length by omega) (show M + N + 2 ≤ M + 2 * N + 6 by omega)
        rw [Nat.add_mul]; omega
      have se := ev_sz hq a1 (Nat.le_refl q.length)
      have z1 := fn_law_at_eq (L ++ [.lst acc]) hq a1 (by omega)
      have z2 := fn_law_less_eq (L ++ [.lst acc]) (Fit.of a2 (by omega)) (Fit.of se (by omega))
      have z3 := fn_law_times_eq (L ++ [.lst acc]) (Fit.of a3 (by omega)) (Fit.of (a2.sub se) (by omega))
      simp [z1, z2, z3, xsO_at hk', ysO_at hk', wsO_at hk']
    · have e : (t.map spD).length = t.length := by simp
      rw [e]
      simp
      refine wp_truncPL Pre.new (Nat.le_refl _) get_last ?_ ⟨rfl, rfl⟩
      rw [range_map_fr]
      exact closeds_frs _ _
  obtain ⟨d, L', e, rfl, rfl⟩ := key.ex
  exact e
theorem kitTup : kitB "tuple" "tuple" = some true := by decide +kernel
theorem fn_law_is_poly_eq {L : Lh} {q : List Rat} {m : Nat} {i : Int} (hi : i = (m : Int)) (hq : trim q = q) (hl : q.length ≤ m) (hl2 : q.length ≤ 1000) : fn_law_is_poly [pol q, .int i] L = .val (.bl true) L := by
  subst hi
  apply wpR.eq
  unfold fn_law_is_poly d_law_is_poly
  refine wp_run rfl ?_
  have n1 : ¬ ((m : Int) < (q.length : Int)) := by omega
  simp [n1]
  refine wp_lcMap (fun _ => .bl true) (by simp; omega) (fun _ => trivial) (fun k hk acc => ?_) ?_
  · have hk' : k < q.length := by simpa using hk
    simp [fn_law_is_fraction_eq]
  · have al := fAll_map (l := List.range q.length) (fun _ => true) (n := L.length) (L := L ++ [.lst ((List.range q.length).map fun _ => .bl true)]) (by simp)
    have e : (q.map fr).length = q.length := by simp
    rw [e]
    have e2 : D.tup [] = pol [] := rfl
    rw [show ((List.range q.length).all fun _ => true) = true by simp] at al
    simp [al, e2, -fAll]
    rcases List.eq_nil_or_concat q with rfl | ⟨r, c, rfl⟩
    · simp
    · rw [List.concat_eq_append] at *
      have hne : r ++ [c] ≠ [] := by simp
      have hc : c ≠ 0 := fun z => by
        subst z
        rw [trim_snoc0] at hq
        have := trim_len r
        have h2 := congrArg List.length hq
        simp at h2; omega
      have fx : ∀ X, fIx (pol (r ++ [c])) (.int (-1)) X = .val (fr c) X := fun X => by
        unfold pol
        exact fIx_tupS (by rw [List.map_append]; exact atI_m1 _ _)
      simp [fx, hc]
theorem fn_law_right_eq {L : Lh} {N n : Nat} {t : List Spo} (ht : L[n]? = some (.lst (t.map spD))) (h : SzT N t) (hr : Rise (xsO t)) (hw : WPos t) (hn : t.length ≤ 8) (h0 : 2 ≤ t.length) (hs : 100000 * N + 400000 ≤ LIM) : fn_law_right [.loc n, .tup [pol (lvPoly t), fr (firstE t)]] L = .val (.bl true) L := by
  have i1 := items_loc ht
  have hll := lvPoly_len t
  apply wpR.eq
  unfold fn_law_right d_law_right
  refine wp_run rfl ?_
  have x1 : ∀ X, fIx (.tup [pol (lvPoly t), fr (firstE t)]) (.int 1) X = .val (fr (firstE t)) X := fun X => fIx_tup (k := 1) rfl rfl
  have x0 : ∀ X, fIx (.tup [pol (lvPoly t), fr (firstE t)]) (.int 0) X = .val (pol (lvPoly t)) X := fun X => fIx_tup (k := 0) rfl rfl
  have pz : ∀ X, fn_law_is_poly [pol (lvPoly t), .int ((t.length : Int) - 1)] X = .val (.bl true) X := fun X => fn_law_is_poly_eq (m := t.length - 1) (by omega) (trim_thr _ _) hll (by omega)
  simp [x1, x0, fn_law_is_fraction_eq, i1, pz, show t.length ≤ 1000000 by omega]
  have ps : (List.range t.length).map (fun k => fr (sg k * firstE t)) = ((List.range t.length).map fun k => sg k * firstE t).map fr := by simp
  refine wp_lc (fun k ys L' => ys = (List.range k).map (fun k => fr (sg k * firstE t)) ∧ Pre L L') ⟨rfl, Pre.new⟩ get_last (fun _ _ _ _ _ _ => trivial) (fun k hk ys L1 hL1 hI => ?_) (fun ys L1 hL1 hI => ?_)
  · obtain ⟨rfl, pre⟩ := hI
    have hk' : k < t.length := by simpa using hk
    simp [fmod2, fr_neg]
    have fin : wpR (fIx (.loc L1.length) (.int ((k % 2 : Nat) : Int)) (L1 ++ [.lst [fr (firstE t), fr (-(firstE t))]])) (fun y L' => y = fr (sg k * firstE t) ∧ L' = L1 ++ [.lst [fr (firstE t), fr (-(firstE t))]]) noE := by
      unfold sg
      rcases Nat.mod_two_eq_zero_or_one k with e | e
      · rw [e, if_pos rfl]; simp [fIx]
      · rw [e, if_neg (by omega), show (-1 : Rat) * firstE t = -firstE t by grind]; simp [fIx]
    obtain ⟨y, L8, ey, rfl, rfl⟩ := fin.ex
    have ey' : fIx (.loc L1.length) (.int ((k : Int) % 2)) (L1 ++ [.lst [fr (firstE t), fr (-(firstE t))]]) = .val (fr (sg k * firstE t)) (L1 ++ [.lst [fr (firstE t), fr (-(firstE t))]]) := by rw [← ey]; congr 2
    simp [ey']
    exact ⟨get_app hL1, by omega, by rw [List.range_succ]; simp, pre.app.set (Nat.le_refl _)⟩
  · obtain ⟨rfl, pre⟩ := hI
    have e : (rngD 0 t.length).length = t.length := by simp
    rw [e, ps] at hL1
    simp [x0]
    have ht1 := pre.get ht
    have sp := lvPoly_sz h hw hr.dis hn
    have m1 : ((lvPoly t).length + 4) * (3400 * N + 8100 + 2 * N + 6) ≤ 12 * (3400 * N + 8100 + 2 * N + 6) := Nat.mul_le_mul (by omega) (Nat.le_refl _)
    have er := fn_law_errors_eq ht1 h sp (by omega) (by omega)
    have e2 : (List.range t.length).map (fun k => fr (at0 (wsO t) k * (at0 (ysO t) k - ev (lvPoly t) (at0 (xsO t) k)))) = ((List.range t.length).map fun k => sg k * firstE t).map fr := by
      rw [← ps]
      refine List.map_congr_left fun k hk => ?_
      have hk' : k < t.length := by simpa using hk
      rw [lv_right hr hw h0 k hk']
      have := w_ne hw hk'
      congr 1; grind
    rw [e2] at er
    simp only [er]
    have q := (eqF_self (t := (List.range t.length).map fun k => sg k * firstE t) (get_last (L := L1)) (get_app hL1)).1
    simp [q, -List.map_map]
    exact wp_truncP pre.app (by simp) ⟨rfl, rfl⟩
theorem fn_law_eq (ns : List Int) (hns : ns.length ≤ 63) : ∃ L, fn_law [.rol (ns.map D.int)] [] = .val (.bl true) L := by
  refine law_loop (w := 4) (pots_B (J := 4) (by decide) (by decide) rfl) fun i hi v hv L => ?_
  obtain ⟨v2, v3, v4, v5, rfl⟩ := exq4 hv
  simp
  refine law_pot (by omega) fun c p0 => ?_
  generalize hL0 : L ++ [c] = L0 at *
  simp
  refine law_draw (m := 6) p0 (by decide) (by decide) fun d L1 d0 d1 g1 p1 => ?_
  simp
  refine law_reference p1 (by omega) (by omega) fun t m L2 h2 hml g2 p2 hl hr hs hw => ?_
  have i2 := items_loc h2
  simp [i2]
  have h3 := get_app (X := [.lst (t.map spD)]) h2
  have hc3 := get_last (L := L2) (c := .lst (t.map spD))
  have hne : L2.length ≠ m := by have := lt_of_get h2; omega
  generalize hL3 : L2 ++ [Cell.lst (t.map spD)] = L3 at *
  have lv := fn_level_eq hc3 hs hw hr.dis (by omega) (by omega) (by decide)
  have lv2 := fn_level_eq h3 hs hw hr.dis (by omega) (by omega) (by decide)
  have bd := fn_bound_eq hc3 hs hw hr.dis (by omega) (by omega) (by decide)
  have ne := eqS_self hc3 h3
  have rt := fn_law_right_eq h3 hs hr hw (by omega) (by omega) (by decide)
  have x1 : ∀ X, fIx (.tup [pol (lvPoly t), fr (firstE t)]) (.int 1) X = .val (fr (firstE t)) X := fun X => fIx_tup (k := 1) rfl rfl
  simp [lv, lv2, bd, ne, rt, x1, fn_law_unsigned_eq, ne_level, hc3]
  rw [mReverse_eq hc3]
  obtain ⟨s0, r, rfl⟩ : ∃ s0 r, t = s0 :: r := by
    cases t with
    | nil => simp at hl; omega
    | cons s0 r => exact ⟨s0, r, rfl⟩
  have hc4 := get_set (d := .lst ((r.map spD).reverse ++ [spD s0])) hc3
  simp [hc4]
  rw [mPop_eq hc4]
  simp
  have h5 : (L3.set L2.length (.lst (r.map spD).reverse))[m]? = some (.lst ((s0 :: r).map spD)) := get_set_ne h3 hne
  have lv5 := fn_level_eq h5 hs hw hr.dis (by omega) (by omega) (by decide)
  have bd5 := fn_bound_eq h5 hs hw hr.dis (by omega) (by omega) (by decide)
  simp [lv5, bd5, x1, fn_law_unsigned_eq, ne_level]

section
variable {P : Program} {w : World} {K : PySem.W.Frag} {mg : Str → Option Value} {base : Heap}
theorem sc_divisor : FnScope ["a", "b", "one", "other"] ["a", "b"] (df_divisor).scope := ⟨rfl, rfl, rfl, by decide +kernel, rfl, by decide +kernel, by decide +kernel⟩
theorem w_divisor (F : Free mg) (SR : base.NoSeer) (TR : P.given.tree = none) {f : Addr} {fd : FuncData} (Fd : FunD K (df_divisor).name (df_divisor).qual (df_divisor).params (df_divisor).body (df_divisor).scope ((df_divisor).dvs K) ((df_divisor).kws K) f fd) (hm : mg (df_divisor).name = some (.ref f)) :
    DefAt P w K mg base "divisor" ["a", "b"] 37 fn_divisor f fd := by
  have nd : (["a", "b", "one", "other"] : List Str).Nodup := sc_divisor.nd
  refine def3 (d := df_divisor) (k := 36) (m := 2) (n := 4) (t := d_divisor) Fd rfl hm sc_divisor rfl rfl (fun _ _ _ _ _ _ us hl => match us, hl with | [_, _], _ => rfl) (fun cdv A outer s H Ex W hr tk hp => ?_)
  have sr : Sr (cx3 P w K mg base ["a", "b", "one", "other"] (df_divisor).qual (df_divisor).scope f cdv A outer s H Ex) := ⟨SR, TR, _, _, rfl, rfl, rfl, rfl, rfl⟩
  have hu := hr.units
  have hu1 : (cx3 P w K mg base ["a", "b", "one", "other"] (df_divisor).qual (df_divisor).scope f cdv A outer s H Ex).A.units + 65 < cLine := by have := hr.un; omega
  exact (ss3_cons (s3_par 2 3 rfl (e3_blt call_abs ok_abs F.abs (a3_cons (e3_var 0) a3_nil)) (e3_blt call_abs ok_abs F.abs (a3_cons (e3_var 1) a3_nil)) nd)
    (ss3_cons (s3_while hp (t3_cmp op_gt ok_gt (e3_var 3) e3_int) (ss3_one (s3_par 2 3 rfl (e3_var 3) (e3_op op_modN ok_mod (e3_var 2) (e3_var 3)) nd)))
    (ss3_one (s3_ret (e3_var 2)))))
theorem sc_fraction : FnScope ["a", "b", "by"] ["a", "b"] (df_fraction).scope := ⟨rfl, rfl, rfl, by decide +kernel, rfl, by decide +kernel, by decide +kernel⟩
theorem w_fraction (F : Free mg) (SR : base.NoSeer) (TR : P.given.tree = none) (D_divisor : Def3 P w K mg base "divisor" ["a", "b"] 37 fn_divisor) {f : Addr} {fd : FuncData} (Fd : FunD K (df_fraction).name (df_fraction).qual (df_fraction).params (df_fraction).body (df_fraction).scope ((df_fraction).dvs K) ((df_fraction).kws K) f fd) (hm : mg (df_fraction).name = some (.ref f)) :
    DefAt P w K mg base "fraction" ["a", "b"] 38 fn_fraction f fd := by
  have nd : (["a", "b", "by"] : List Str).Nodup := sc_fraction.nd
  refine def3 (d := df_fraction) (k := 37) (m := 2) (n := 3) (t := d_fraction) Fd rfl hm sc_fraction rfl rfl (fun _ _ _ _ _ _ us hl => match us, hl with | [_, _], _ => rfl) (fun cdv A outer s H Ex W hr tk hp => ?_)
  have sr : Sr (cx3 P w K mg base ["a", "b", "by"] (df_fraction).qual (df_fraction).scope f cdv A outer s H Ex) := ⟨SR, TR, _, _, rfl, rfl, rfl, rfl, rfl⟩
  have hu := hr.units
  have hu1 : (cx3 P w K mg base ["a", "b", "by"] (df_fraction).qual (df_fraction).scope f cdv A outer s H Ex).A.units + 65 < cLine := by have := hr.un; omega
  exact (ss3_cons (s3_set 2 (e3_callD D_divisor hr tk (a3_cons (e3_var 0) (a3_cons (e3_var 1) a3_nil))) nd)
    (ss3_cons (s3_if (t3_cmp op_lt ok_lt (e3_var 1) e3_int) (ss3_one (s3_set 2 (e3_un un_neg ok_neg (e3_var 2)) nd)) ss3_nil)
    (ss3_one (s3_ret (e3_tup (a3_cons (e3_op (op_fdiv4 sr hr) ok_fdiv (e3_var 0) (e3_var 2)) (a3_cons (e3_op (op_fdiv4 sr hr) ok_fdiv (e3_var 1) (e3_var 2)) a3_nil)))))))
theorem sc_plus : FnScope ["one", "other"] ["one", "other"] (df_plus).scope := ⟨rfl, rfl, rfl, by decide +kernel, rfl, by decide +kernel, by decide +kernel⟩
theorem w_plus (F : Free mg) (SR : base.NoSeer) (TR : P.given.tree = none) (D_fraction : Def3 P w K mg base "fraction" ["a", "b"] 38 fn_fraction) {f : Addr} {fd : FuncData} (Fd : FunD K (df_plus).name (df_plus).qual (df_plus).params (df_plus).body (df_plus).scope ((df_plus).dvs K) ((df_plus).kws K) f fd) (hm : mg (df_plus).name = some (.ref f)) :
    DefAt P w K mg base "plus" ["one", "other"] 39 fn_plus f fd := by
  have nd : (["one", "other"] : List Str).Nodup := sc_plus.nd
  refine def3 (d := df_plus) (k := 38) (m := 2) (n := 2) (t := d_plus) Fd rfl hm sc_plus rfl rfl (fun _ _ _ _ _ _ us hl => match us, hl with | [_, _], _ => rfl) (fun cdv A outer s H Ex W hr tk hp => ?_)
  have sr : Sr (cx3 P w K mg base ["one", "other"] (df_plus).qual (df_plus).scope f cdv A outer s H Ex) := ⟨SR, TR, _, _, rfl, rfl, rfl, rfl, rfl⟩
  have hu := hr.units
  have hu1 : (cx3 P w K mg base ["one", "other"] (df_plus).qual (df_plus).scope f cdv A outer s H Ex).A.units + 65 < cLine := by have := hr.un; omega
  exact (ss3_one (s3_ret (e3_callD D_fraction hr tk (a3_cons (e3_op op_add3 ok_add (e3_op op_mul3 ok_mul (e3_ix ix_seq ok_ix (e3_var 0) e3_int) (e3_ix ix_seq ok_ix (e3_var 1) e3_int)) (e3_op op_mul3 ok_mul (e3_ix ix_seq ok_ix (e3_var 1) e3_int) (e3_ix ix_seq ok_ix (e3_var 0) e3_int))) (a3_cons (e3_op op_mul3 ok_mul (e3_ix ix_seq ok_ix (e3_var 0) e3_int) (e3_ix ix_seq ok_ix (e3_var 1) e3_int)) a3_nil)))))
theorem sc_less : FnScope ["one", "other"] ["one", "other"] (df_less).scope := ⟨rfl, rfl, rfl, by decide +kernel, rfl, by decide +kernel, by decide +kernel⟩
theorem w_less (F : Free mg) (SR : base.NoSeer) (TR : P.given.tree = none) (D_fraction : Def3 P w K mg base "fraction" ["a", "b"] 38 fn_fraction) {f : Addr} {fd : FuncData} (Fd : FunD K (df_less).name (df_less).qual (df_less).params (df_less).body (df_less).scope ((df_less).dvs K) ((df_less).kws K) f fd) (hm : mg (df_less).name = some (.ref f)) :
    DefAt P w K mg base "less" ["one", "other"] 39 fn_less f fd := by
  have nd : (["one", "other"] : List Str).Nodup := sc_less.nd
  refine def3 (d := df_less) (k := 38) (m := 2) (n := 2) (t := d_less) Fd rfl hm sc_less rfl rfl (fun _ _ _ _ _ _ us hl => match us, hl with | [_, _], _ => rfl) (fun cdv A outer s H Ex W hr tk hp => ?_)
  have sr : Sr (cx3 P w K mg base ["one", "other"] (df_less).qual (df_less).scope f cdv A outer s H Ex) := ⟨SR, TR, _, _, rfl, rfl, rfl, rfl, rfl⟩
  have hu := hr.units
  have hu1 : (cx3 P w K mg base ["one", "other"] (df_less).qual (df_less).scope f cdv A outer s H Ex).A.units + 65 < cLine := by have := hr.un; omega
  exact (ss3_one (s3_ret (e3_callD D_fraction hr tk (a3_cons (e3_op op_sub ok_sub (e3_op op_mul3 ok_mul (e3_ix ix_seq ok_ix (e3_var 0) e3_int) (e3_ix ix_seq ok_ix (e3_var 1) e3_int)) (e3_op op_mul3 ok_mul (e3_ix ix_seq ok_ix (e3_var 1) e3_int) (e3_ix ix_seq ok_ix (e3_var 0) e3_int))) (a3_cons (e3_op op_mul3 ok_mul (e3_ix ix_seq ok_ix (e3_var 0) e3_int) (e3_ix ix_seq ok_ix (e3_var 1) e3_int)) a3_nil)))))
theorem sc_times : FnScope ["one", "other"] ["one", "other"] (df_times).scope := ⟨rfl, rfl, rfl, by decide +kernel, rfl, by decide +kernel, by decide +kernel⟩
theorem w_times (F : Free mg) (SR : base.NoSeer) (TR : P.given.tree = none) (D_fraction : Def3 P w K mg base "fraction" ["a", "b"] 38 fn_fraction) {f : Addr} {fd : FuncData} (Fd : FunD K (df_times).name (df_times).qual (df_times).params (df_times).body (df_times).scope ((df_times).dvs K) ((df_times).kws K) f fd) (hm : mg (df_times).name = some (.ref f)) :
    DefAt P w K mg base "times" ["one", "other"] 39 fn_times f fd := by
  have nd : (["one", "other"] : List Str).Nodup := sc_times.nd
  refine def3 (d := df_times) (k := 38) (m := 2) (n := 2) (t := d_times) Fd rfl hm sc_times rfl rfl (fun _ _ _ _ _ _ us hl => match us, hl with | [_, _], _ => rfl) (fun cdv A outer s H Ex W hr tk hp => ?_)
  have sr : Sr (cx3 P w K mg base ["one", "other"] (df_times).qual (df_times).scope f cdv A outer s H Ex) := ⟨SR, TR, _, _, rfl, rfl, rfl, rfl, rfl⟩
  have hu := hr.units
  have hu1 : (cx3 P w K mg base ["one", "other"] (df_times).qual (df_times).scope f cdv A outer s H Ex).A.units + 65 < cLine := by have := hr.un; omega
  exact (ss3_one (s3_ret (e3_callD D_fraction hr tk (a3_cons (e3_op op_mul3 ok_mul (e3_ix ix_seq ok_ix (e3_var 0) e3_int) (e3_ix ix_seq ok_ix (e3_var 1) e3_int)) (a3_cons (e3_op op_mul3 ok_mul (e3_ix ix_seq ok_ix (e3_var 0) e3_int) (e3_ix ix_seq ok_ix (e3_var 1) e3_int)) a3_nil)))))
theorem sc_over : FnScope ["one", "other"] ["one", "other"] (df_over).scope := ⟨rfl, rfl, rfl, by decide +kernel, rfl, by decide +kernel, by decide +kernel⟩
theorem w_over (F : Free mg) (SR : base.NoSeer) (TR : P.given.tree = none) (D_fraction : Def3 P w K mg base "fraction" ["a", "b"] 38 fn_fraction) {f : Addr} {fd : FuncData} (Fd : FunD K (df_over).name (df_over).qual (df_over).params (df_over).body (df_over).scope ((df_over).dvs K) ((df_over).kws K) f fd) (hm : mg (df_over).name = some (.ref f)) :
    DefAt P w K mg base "over" ["one", "other"] 39 fn_over f fd := by
  have nd : (["one", "other"] : List Str).Nodup := sc_over.nd
  refine def3 (d := df_over) (k := 38) (m := 2) (n := 2) (t := d_over) Fd rfl hm sc_over rfl rfl (fun _ _ _ _ _ _ us hl => match us, hl with | [_, _], _ => rfl) (fun cdv A outer s H Ex W hr tk hp => ?_)
  have sr : Sr (cx3 P w K mg base ["one", "other"] (df_over).qual (df_over).scope f cdv A outer s H Ex) := ⟨SR, TR, _, _, rfl, rfl, rfl, rfl, rfl⟩
  have hu := hr.units
  have hu1 : (cx3 P w K mg base ["one", "other"] (df_over).qual (df_over).scope f cdv A outer s H Ex).A.units + 65 < cLine := by have := hr.un; omega
  exact (ss3_one (s3_ret (e3_callD D_fraction hr tk (a3_cons (e3_op op_mul3 ok_mul (e3_ix ix_seq ok_ix (e3_var 0) e3_int) (e3_ix ix_seq ok_ix (e3_var 1) e3_int)) (a3_cons (e3_op op_mul3 ok_mul (e3_ix ix_seq ok_ix (e3_var 0) e3_int) (e3_ix ix_seq ok_ix (e3_var 1) e3_int)) a3_nil)))))
theorem sc_turned : FnScope ["one"] ["one"] (df_turned).scope := ⟨rfl, rfl, rfl, by decide +kernel, rfl, by decide +kernel, by decide +kernel⟩
theorem w_turned (F : Free mg) (SR : base.NoSeer) (TR : P.given.tree = none) {f : Addr} {fd : FuncData} (Fd : FunD K (df_turned).name (df_turned).qual (df_turned).params (df_turned).body (df_turned).scope ((df_turned).dvs K) ((df_turned).kws K) f fd) (hm : mg (df_turned).name = some (.ref f)) :
    DefAt P w K mg base "turned" ["one"] 37 fn_turned f fd := by
  have nd : (["one"] : List Str).Nodup := sc_turned.nd
  refine def3 (d := df_turned) (k := 36) (m := 1) (n := 1) (t := d_turned) Fd rfl hm sc_turned rfl rfl (fun _ _ _ _ _ _ us hl => match us, hl with | [_], _ => rfl) (fun cdv A outer s H Ex W hr tk hp => ?_)
  have sr : Sr (cx3 P w K mg base ["one"] (df_turned).qual (df_turned).scope f cdv A outer s H Ex) := ⟨SR, TR, _, _, rfl, rfl, rfl, rfl, rfl⟩
  have hu := hr.units
  have hu1 : (cx3 P w K mg base ["one"] (df_turned).qual (df_turned).scope f cdv A outer s H Ex).A.units + 65 < cLine := by have := hr.un; omega
  exact (ss3_one (s3_ret (e3_tup (a3_cons (e3_un un_neg ok_neg (e3_ix ix_seq ok_ix (e3_var 0) e3_int)) (a3_cons (e3_ix ix_seq ok_ix (e3_var 0) e3_int) a3_nil)))))
theorem sc_lever : FnScope ["numbers", "k", "found", "j", "x"] ["numbers", "k"] (df_lever).scope := ⟨rfl, rfl, rfl, by decide +kernel, rfl, by decide +kernel, by decide +kernel⟩
theorem w_lever (F : Free mg) (SR : base.NoSeer) (TR : P.given.tree = none) (C_ONE_levers : Cst K mg "ONE_levers" k_ONE_levers) (D_less : Def3 P w K mg base "less" ["one", "other"] 39 fn_less) (D_times : Def3 P w K mg base "times" ["one", "other"] 39 fn_times) (D_over : Def3 P w K mg base "over" ["one", "other"] 39 fn_over) {f : Addr} {fd : FuncData} (Fd : FunD K (df_lever).name (df_lever).qual (df_lever).params (df_lever).body (df_lever).scope ((df_lever).dvs K) ((df_lever).kws K) f fd) (hm : mg (df_lever).name = some (.ref f)) :
    DefAt P w K mg base "lever" ["numbers", "k"] 40 fn_lever f fd := by
  have nd : (["numbers", "k", "found", "j", "x"] : List Str).Nodup := sc_lever.nd
  refine def3 (d := df_lever) (k := 39) (m := 2) (n := 5) (t := d_lever) Fd rfl hm sc_lever rfl rfl (fun _ _ _ _ _ _ us hl => match us, hl with | [_, _], _ => rfl) (fun cdv A outer s H Ex W hr tk hp => ?_)
  have sr : Sr (cx3 P w K mg base ["numbers", "k", "found", "j", "x"] (df_lever).qual (df_lever).scope f cdv A outer s H Ex) := ⟨SR, TR, _, _, rfl, rfl, rfl, rfl, rfl⟩
  have hu := hr.units
  have hu1 : (cx3 P w K mg base ["numbers", "k", "found", "j", "x"] (df_lever).qual (df_lever).scope f cdv A outer s H Ex).A.units + 65 < cLine := by have := hr.un; omega
  exact (ss3_cons (s3_set 2 (e3_cst C_ONE_levers) nd)
    (ss3_cons (s3_for hp rfl (i3_enumB F.enumerate (e3_var 0)) (g3_tup rfl (gs3_cons (g3_name 3 nd) (gs3_cons (g3_name 4 nd) gs3_nil))) (ss3_one (s3_if (t3_cmp (op_neD hu) ok_ne (e3_var 3) (e3_var 1)) (ss3_one (s3_set 2 (e3_callD D_times hr tk (a3_cons (e3_var 2) (a3_cons (e3_callD D_less hr tk (a3_cons (e3_ix ix_seq ok_ix (e3_var 0) (e3_var 1)) (a3_cons (e3_var 4) a3_nil))) a3_nil))) nd)) ss3_nil)))
    (ss3_one (s3_ret (e3_callD D_over hr tk (a3_cons (e3_cst C_ONE_levers) (a3_cons (e3_var 2) a3_nil)))))))
theorem sc_levers : FnScope ["numbers", "k"] ["numbers"] (df_levers).scope := ⟨rfl, rfl, rfl, by decide +kernel, rfl, by decide +kernel, by decide +kernel⟩
theorem w_levers (F : Free mg) (SR : base.NoSeer) (TR : P.given.tree = none) (D_lever : Def3 P w K mg base "lever" ["numbers", "k"] 40 fn_lever) {f : Addr} {fd : FuncData} (Fd : FunD K (df_levers).name (df_levers).qual (df_levers).params (df_levers).body (df_levers).scope ((df_levers).dvs K) ((df_levers).kws K) f fd) (hm : mg (df_levers).name = some (.ref f)) :
    DefAt P w K mg base "levers" ["numbers"] 41 fn_levers f fd := by
  have nd : (["numbers", "k"] : List Str).Nodup := sc_levers.nd
  refine def3 (d := df_levers) (k := 40) (m := 1) (n := 2) (t := d_levers) Fd rfl hm sc_levers rfl rfl (fun _ _ _ _ _ _ us hl => match us, hl with | [_], _ => rfl) (fun cdv A outer s H Ex W hr tk hp => ?_)
  have sr : Sr (cx3 P w K mg base ["numbers", "k"] (df_levers).qual (df_levers).scope f cdv A outer s H Ex) := ⟨SR, TR, _, _, rfl, rfl, rfl, rfl, rfl⟩
  have hu := hr.units
  have hu1 : (cx3 P w K mg base ["numbers", "k"] (df_levers).qual (df_levers).scope f cdv A outer s H Ex).A.units + 65 < cLine := by have := hr.un; omega
  exact (ss3_one (s3_ret (e3_lc (own := [("k", 1)]) rfl nd (i3_range1 F.range (a3_cons (e3_blt call_len_seq ok_len F.len (a3_cons (e3_var 0) a3_nil)) a3_nil)) (by kernel_rfl) (fun _ _ _ _ _ => (g3_name 1 nd)) (fun _ _ _ _ _ => ts3_nil) (fun _ _ _ _ _ => (e3_callD D_lever hr takes0 (a3_cons (e3_var 0) (a3_cons (e3_var 1) a3_nil)))))))
theorem sc_weighed : FnScope ["numbers", "worths", "found", "one", "y"] ["numbers", "worths"] (df_weighed).scope := ⟨rfl, rfl, rfl, by decide +kernel, rfl, by decide +kernel, by decide +kernel⟩
theorem w_weighed (F : Free mg) (SR : base.NoSeer) (TR : P.given.tree = none) (C_NOUGHT_levers : Cst K mg "NOUGHT_levers" k_NOUGHT_levers) (D_plus : Def3 P w K mg base "plus" ["one", "other"] 39 fn_plus) (D_times : Def3 P w K mg base "times" ["one", "other"] 39 fn_times) (D_levers : Def3 P w K mg base "levers" ["numbers"] 41 fn_levers) {f : Addr} {fd : FuncData} (Fd : FunD K (df_weighed).name (df_weighed).qual (df_weighed).params (df_weighed).body (df_weighed).scope ((df_weighed).dvs K) ((df_weighed).kws K) f fd) (hm : mg (df_weighed).name = some (.ref f)) :
    DefAt P w K mg base "weighed" ["numbers", "worths"] 42 fn_weighed f fd := by
  have nd : (["numbers", "worths", "found", "one", "y"] : List Str).Nodup := sc_weighed.nd
  refine def3 (d := df_weighed) (k := 41) (m := 2) (n := 5) (t := d_weighed) Fd rfl hm sc_weighed rfl rfl (fun _ _ _ _ _ _ us hl => match us, hl with | [_, _], _ => rfl) (fun cdv A outer s H Ex W hr tk hp => ?_)
  have sr : Sr (cx3 P w K mg base ["numbers", "worths", "found", "one", "y"] (df_weighed).qual (df_weighed).scope f cdv A outer s H Ex) := ⟨SR, TR, _, _, rfl, rfl, rfl, rfl, rfl⟩
  have hu := hr.units
  have hu1 : (cx3 P w K mg base ["numbers", "worths", "found", "one", "y"] (df_weighed).qual (df_weighed).scope f cdv A outer s H Ex).A.units + 65 < cLine := by have := hr.un; omega
  exact (ss3_cons (s3_set 2 (e3_cst C_NOUGHT_levers) nd)
    (ss3_cons (s3_for hp rfl (i3_zip F.zip (e3_callD D_levers hr tk (a3_cons (e3_var 0) a3_nil)) (e3_var 1)) (g3_tup rfl (gs3_cons (g3_name 3 nd) (gs3_cons (g3_name 4 nd) gs3_nil))) (ss3_one (s3_set 2 (e3_callD D_plus hr tk (a3_cons (e3_var 2) (a3_cons (e3_callD D_times hr tk (a3_cons (e3_var 3) (a3_cons (e3_var 4) a3_nil))) a3_nil))) nd)))
    (ss3_one (s3_ret (e3_var 2)))))
theorem sc_lean : FnScope ["parts", "many"] ["parts"] (df_lean).scope := ⟨rfl, rfl, rfl, by decide +kernel, rfl, by decide +kernel, by decide +kernel⟩
theorem w_lean (F : Free mg) (SR : base.NoSeer) (TR : P.given.tree = none) (C_NOUGHT_fractions : Cst K mg "NOUGHT_fractions" k_NOUGHT_fractions) {f : Addr} {fd : FuncData} (Fd : FunD K (df_lean).name (df_lean).qual (df_lean).params (df_lean).body (df_lean).scope ((df_lean).dvs K) ((df_lean).kws K) f fd) (hm : mg (df_lean).name = some (.ref f)) :
    DefAt P w K mg base "lean" ["parts"] 37 fn_lean f fd := by
  have nd : (["parts", "many"] : List Str).Nodup := sc_lean.nd
  refine def3 (d := df_lean) (k := 36) (m := 1) (n := 2) (t := d_lean) Fd rfl hm sc_lean rfl rfl (fun _ _ _ _ _ _ us hl => match us, hl with | [_], _ => rfl) (fun cdv A outer s H Ex W hr tk hp => ?_)
  have sr : Sr (cx3 P w K mg base ["parts", "many"] (df_lean).qual (df_lean).scope f cdv A outer s H Ex) := ⟨SR, TR, _, _, rfl, rfl, rfl, rfl, rfl⟩
  have hu := hr.units
  have hu1 : (cx3 P w K mg base ["parts", "many"] (df_lean).qual (df_lean).scope f cdv A outer s H Ex).A.units + 65 < cLine := by have := hr.un; omega
  exact (ss3_cons (s3_set 1 (e3_blt call_len_seq ok_len F.len (a3_cons (e3_var 0) a3_nil)) nd)
    (ss3_cons (s3_while hp (t3_w (w3_and (t3_cmp op_gt ok_gt (e3_var 1) e3_int) (w3_and1 (t3_cmp (op_eqD hu) ok_eq (e3_ix ix_seq ok_ix (e3_var 0) (e3_op op_sub ok_sub (e3_var 1) e3_int)) (e3_cst C_NOUGHT_fractions))))) (ss3_one (s3_set 1 (e3_op op_sub ok_sub (e3_var 1) e3_int) nd)))
    (ss3_one (s3_ret (e3_bty call_tuple_of ok_tuple F.tuple (a3_cons (e3_slice (e3_var 0) o3_no (o3_so (e3_var 1))) a3_nil))))))
theorem sc_worth : FnScope ["poly", "x", "found", "part"] ["poly", "x"] (df_worth).scope := ⟨rfl, rfl, rfl, by decide +kernel, rfl, by decide +kernel, by decide +kernel⟩
theorem w_worth (F : Free mg) (SR : base.NoSeer) (TR : P.given.tree = none) (C_NOUGHT_fractions : Cst K mg "NOUGHT_fractions" k_NOUGHT_fractions) (D_plus : Def3 P w K mg base "plus" ["one", "other"] 39 fn_plus) (D_times : Def3 P w K mg base "times" ["one", "other"] 39 fn_times) {f : Addr} {fd : FuncData} (Fd : FunD K (df_worth).name (df_worth).qual (df_worth).params (df_worth).body (df_worth).scope ((df_worth).dvs K) ((df_worth).kws K) f fd) (hm : mg (df_worth).name = some (.ref f)) :
    DefAt P w K mg base "worth" ["poly", "x"] 40 fn_worth f fd := by
  have nd : (["poly", "x", "found", "part"] : List Str).Nodup := sc_worth.nd
  refine def3 (d := df_worth) (k := 39) (m := 2) (n := 4) (t := d_worth) Fd rfl hm sc_worth rfl rfl (fun _ _ _ _ _ _ us hl => match us, hl with | [_, _], _ => rfl) (fun cdv A outer s H Ex W hr tk hp => ?_)
  have sr : Sr (cx3 P w K mg base ["poly", "x", "found", "part"] (df_worth).qual (df_worth).scope f cdv A outer s H Ex) := ⟨SR, TR, _, _, rfl, rfl, rfl, rfl, rfl⟩
  have hu := hr.units
  have hu1 : (cx3 P w K mg base ["poly", "x", "found", "part"] (df_worth).qual (df_worth).scope f cdv A outer s H Ex).A.units + 65 < cLine := by have := hr.un; omega
  exact (ss3_cons (s3_set 2 (e3_cst C_NOUGHT_fractions) nd)
    (ss3_cons (s3_for hp rfl (i3_rev F.reversed (e3_var 0)) (g3_name 3 nd) (ss3_one (s3_set 2 (e3_callD D_plus hr tk (a3_cons (e3_callD D_times hr tk (a3_cons (e3_var 2) (a3_cons (e3_var 1) a3_nil))) (a3_cons (e3_var 3) a3_nil))) nd)))
    (ss3_one (s3_ret (e3_var 2)))))
theorem sc_part_at : FnScope ["poly", "k"] ["poly", "k"] (df_part_at).scope := ⟨rfl, rfl, rfl, by decide +kernel, rfl, by decide +kernel, by decide +kernel⟩
theorem w_part_at (F : Free mg) (SR : base.NoSeer) (TR : P.given.tree = none) (C_NOUGHT_fractions : Cst K mg "NOUGHT_fractions" k_NOUGHT_fractions) {f : Addr} {fd : FuncData} (Fd : FunD K (df_part_at).name (df_part_at).qual (df_part_at).params (df_part_at).body (df_part_at).scope ((df_part_at).dvs K) ((df_part_at).kws K) f fd) (hm : mg (df_part_at).name = some (.ref f)) :
    DefAt P w K mg base "part_at" ["poly", "k"] 37 fn_part_at f fd := by
  have nd : (["poly", "k"] : List Str).Nodup := sc_part_at.nd
  refine def3 (d := df_part_at) (k := 36) (m := 2) (n := 2) (t := d_part_at) Fd rfl hm sc_part_at rfl rfl (fun _ _ _ _ _ _ us hl => match us, hl with | [_, _], _ => rfl) (fun cdv A outer s H Ex W hr tk hp => ?_)
  have sr : Sr (cx3 P w K mg base ["poly", "k"] (df_part_at).qual (df_part_at).scope f cdv A outer s H Ex) := ⟨SR, TR, _, _, rfl, rfl, rfl, rfl, rfl⟩
  have hu := hr.units
  have hu1 : (cx3 P w K mg base ["poly", "k"] (df_part_at).qual (df_part_at).scope f cdv A outer s H Ex).A.units + 65 < cLine := by have := hr.un; omega
  exact (ss3_cons (s3_if (t3_cmp op_lt ok_lt (e3_var 1) (e3_blt call_len_seq ok_len F.len (a3_cons (e3_var 0) a3_nil))) (ss3_one (s3_ret (e3_ix ix_seq ok_ix (e3_var 0) (e3_var 1)))) ss3_nil)
    (ss3_one (s3_ret (e3_cst C_NOUGHT_fractions))))
theorem sc_sum_of : FnScope ["one", "other", "many", "k"] ["one", "other"] (df_sum_of).scope := ⟨rfl, rfl, rfl, by decide +kernel, rfl, by decide +kernel, by decide +kernel⟩
theorem w_sum_of (F : Free mg) (SR : base.NoSeer) (TR : P.given.tree = none) (D_plus : Def3 P w K mg base "plus" ["one", "other"] 39 fn_plus) (D_lean : Def3 P w K mg base "lean" ["parts"] 37 fn_lean) (D_part_at : Def3 P w K mg base "part_at" ["poly", "k"] 37 fn_part_at) {f : Addr} {fd : FuncData} (Fd : FunD K (df_sum_of).name (df_sum_of).qual (df_sum_of).params (df_sum_of).body (df_sum_of).scope ((df_sum_of).dvs K) ((df_sum_of).kws K) f fd) (hm : mg (df_sum_of).name = some (.ref f)) :
    DefAt P w K mg base "sum_of" ["one", "other"] 40 fn_sum_of f fd := by
  have nd : (["one", "other", "many", "k"] : List Str).Nodup := sc_sum_of.nd
  refine def3 (d := df_sum_of) (k := 39) (m := 2) (n := 4) (t := d_sum_of) Fd rfl hm sc_sum_of rfl rfl (fun _ _ _ _ _ _ us hl => match us, hl with | [_, _], _ => rfl) (fun cdv A outer s H Ex W hr tk hp => ?_)
  have sr : Sr (cx3 P w K mg base ["one", "other", "many", "k"] (df_sum_of).qual (df_sum_of).scope f cdv A outer s H Ex) := ⟨SR, TR, _, _, rfl, rfl, rfl, rfl, rfl⟩
  have hu := hr.units
  have hu1 : (cx3 P w K mg base ["one", "other", "many", "k"] (df_sum_of).qual (df_sum_of).scope f cdv A outer s H Ex).A.units + 65 < cLine := by have := hr.un; omega
  exact (ss3_cons (s3_set 2 (e3_blt (call_max2 rfl) ok_max2 F.max (a3_cons (e3_blt call_len_seq ok_len F.len (a3_cons (e3_var 0) a3_nil)) (a3_cons (e3_blt call_len_seq ok_len F.len (a3_cons (e3_var 1) a3_nil)) a3_nil))) nd)
    (ss3_one (s3_ret (e3_callD D_lean hr tk (a3_cons (e3_lc (own := [("k", 3)]) rfl nd (i3_range1 F.range (a3_cons (e3_var 2) a3_nil)) (by kernel_rfl) (fun _ _ _ _ _ => (g3_name 3 nd)) (fun _ _ _ _ _ => ts3_nil) (fun _ _ _ _ _ => (e3_callD D_plus hr takes0 (a3_cons (e3_callD D_part_at hr takes0 (a3_cons (e3_var 0) (a3_cons (e3_var 3) a3_nil))) (a3_cons (e3_callD D_part_at hr takes0 (a3_cons (e3_var 1) (a3_cons (e3_var 3) a3_nil))) a3_nil))))) a3_nil)))))
theorem sc_times_all : FnScope ["poly", "g", "part"] ["poly", "g"] (df_times_all).scope := ⟨rfl, rfl, rfl, by decide +kernel, rfl, by decide +kernel, by decide +kernel⟩
theorem w_times_all (F : Free mg) (SR : base.NoSeer) (TR : P.given.tree = none) (D_times : Def3 P w K mg base "times" ["one", "other"] 39 fn_times) (D_lean : Def3 P w K mg base "lean" ["parts"] 37 fn_lean) {f : Addr} {fd : FuncData} (Fd : FunD K (df_times_all).name (df_times_all).qual (df_times_all).params (df_times_all).body (df_times_all).scope ((df_times_all).dvs K) ((df_times_all).kws K) f fd) (hm : mg (df_times_all).name = some (.ref f)) :
    DefAt P w K mg base "times_all" ["poly", "g"] 40 fn_times_all f fd := by
  have nd : (["poly", "g", "part"] : List Str).Nodup := sc_times_all.nd
  refine def3 (d := df_times_all) (k := 39) (m := 2) (n := 3) (t := d_times_all) Fd rfl hm sc_times_all rfl rfl (fun _ _ _ _ _ _ us hl => match us, hl with | [_, _], _ => rfl) (fun cdv A outer s H Ex W hr tk hp => ?_)
  have sr : Sr (cx3 P w K mg base ["poly", "g", "part"] (df_times_all).qual (df_times_all).scope f cdv A outer s H Ex) := ⟨SR, TR, _, _, rfl, rfl, rfl, rfl, rfl⟩
  have hu := hr.units
  have hu1 : (cx3 P w K mg base ["poly", "g", "part"] (df_times_all).qual (df_times_all).scope f cdv A outer s H Ex).A.units + 65 < cLine := by have := hr.un; omega
  exact (ss3_one (s3_ret (e3_callD D_lean hr tk (a3_cons (e3_lc (own := [("part", 2)]) rfl nd (i3_lt (e3_var 0)) (by kernel_rfl) (fun _ _ _ _ _ => (g3_name 2 nd)) (fun _ _ _ _ _ => ts3_nil) (fun _ _ _ _ _ => (e3_callD D_times hr takes0 (a3_cons (e3_var 2) (a3_cons (e3_var 1) a3_nil))))) a3_nil))))
theorem sc_product : FnScope ["one", "other", "found", "j", "part", "k", "factor"] ["one", "other"] (df_product).scope := ⟨rfl, rfl, rfl, by decide +kernel, rfl, by decide +kernel, by decide +kernel⟩
theorem w_product (F : Free mg) (SR : base.NoSeer) (TR : P.given.tree = none) (C_NOUGHT_fractions : Cst K mg "NOUGHT_fractions" k_NOUGHT_fractions) (D_plus : Def3 P w K mg base "plus" ["one", "other"] 39 fn_plus) (D_times : Def3 P w K mg base "times" ["one", "other"] 39 fn_times) (D_lean : Def3 P w K mg base "lean" ["parts"] 37 fn_lean) {f : Addr} {fd : FuncData} (Fd : FunD K (df_product).name (df_product).qual (df_product).params (df_product).body (df_product).scope ((df_product).dvs K) ((df_product).kws K) f fd) (hm : mg (df_product).name = some (.ref f)) :
    DefAt P w K mg base "product" ["one", "other"] 40 fn_product f fd := by
  have nd : (["one", "other", "found", "j", "part", "k", "factor"] : List Str).Nodup := sc_product.nd
  refine def3 (d := df_product) (k := 39) (m := 2) (n := 7) (t := d_product) Fd rfl hm sc_product rfl rfl (fun _ _ _ _ _ _ us hl => match us, hl with | [_, _], _ => rfl) (fun cdv A outer s H Ex W hr tk hp => ?_)
  have sr : Sr (cx3 P w K mg base ["one", "other", "found", "j", "part", "k", "factor"] (df_product).qual (df_product).scope f cdv A outer s H Ex) := ⟨SR, TR, _, _, rfl, rfl, rfl, rfl, rfl⟩
  have hu := hr.units
  have hu1 : (cx3 P w K mg base ["one", "other", "found", "j", "part", "k", "factor"] (df_product).qual (df_product).scope f cdv A outer s H Ex).A.units + 65 < cLine := by have := hr.un; omega
  exact (ss3_cons (s3_set 2 (e3_op op_mul3 ok_mul (e3_lst (a3_cons (e3_cst C_NOUGHT_fractions) a3_nil)) (e3_op op_add3 ok_add (e3_blt call_len_seq ok_len F.len (a3_cons (e3_var 0) a3_nil)) (e3_blt call_len_seq ok_len F.len (a3_cons (e3_var 1) a3_nil)))) nd)
    (ss3_cons (s3_for hp rfl (i3_enumB F.enumerate (e3_var 0)) (g3_tup rfl (gs3_cons (g3_name 3 nd) (gs3_cons (g3_name 4 nd) gs3_nil))) (ss3_one (s3_for hp rfl (i3_enumB F.enumerate (e3_var 1)) (g3_tup rfl (gs3_cons (g3_name 5 nd) (gs3_cons (g3_name 6 nd) gs3_nil))) (ss3_one (s3_asg (e3_callD D_plus hr tk (a3_cons (e3_ix ix_seq ok_ix (e3_var 2) (e3_op op_add3 ok_add (e3_var 3) (e3_var 5))) (a3_cons (e3_callD D_times hr tk (a3_cons (e3_var 4) (a3_cons (e3_var 6) a3_nil))) a3_nil))) (g3_sub (e3_var 2) (e3_op op_add3 ok_add (e3_var 3) (e3_var 5))))))))
    (ss3_one (s3_ret (e3_callD D_lean hr tk (a3_cons (e3_var 2) a3_nil))))))
theorem sc_without_root : FnScope ["x"] ["x"] (df_without_root).scope := ⟨rfl, rfl, rfl, by decide +kernel, rfl, by decide +kernel, by decide +kernel⟩
theorem w_without_root (F : Free mg) (SR : base.NoSeer) (TR : P.given.tree = none) (C_ONE_fractions : Cst K mg "ONE_fractions" k_ONE_fractions) (D_turned : Def3 P w K mg base "turned" ["one"] 37 fn_turned) {f : Addr} {fd : FuncData} (Fd : FunD K (df_without_root).name (df_without_root).qual (df_without_root).params (df_without_root).body (df_without_root).scope ((df_without_root).dvs K) ((df_without_root).kws K) f fd) (hm : mg (df_without_root).name = some (.ref f)) :
    DefAt P w K mg base "without_root" ["x"] 38 fn_without_root f fd := by
  have nd : (["x"] : List Str).Nodup := sc_without_root.nd
  refine def3 (d := df_without_root) (k := 37) (m := 1) (n := 1) (t := d_without_root) Fd rfl hm sc_without_root rfl rfl (fun _ _ _ _ _ _ us hl => match us, hl with | [_], _ => rfl) (fun cdv A outer s H Ex W hr tk hp => ?_)
  have sr : Sr (cx3 P w K mg base ["x"] (df_without_root).qual (df_without_root).scope f cdv A outer s H Ex) := ⟨SR, TR, _, _, rfl, rfl, rfl, rfl, rfl⟩
  have hu := hr.units
  have hu1 : (cx3 P w K mg base ["x"] (df_without_root).qual (df_without_root).scope f cdv A outer s H Ex).A.units + 65 < cLine := by have := hr.un; omega
  exact (ss3_one (s3_ret (e3_tup (a3_cons (e3_callD D_turned hr tk (a3_cons (e3_var 0) a3_nil)) (a3_cons (e3_cst C_ONE_fractions) a3_nil)))))
theorem sc_through : FnScope ["pairs", "found", "roots", "x", "y", "steep", "lacking"] ["pairs"] (df_through).scope := ⟨rfl, rfl, rfl, by decide +kernel, rfl, by decide +kernel, by decide +kernel⟩
theorem w_through (F : Free mg) (SR : base.NoSeer) (TR : P.given.tree = none) (C_NOUGHT_fractions : Cst K mg "NOUGHT_fractions" k_NOUGHT_fractions) (C_ONE_fractions : Cst K mg "ONE_fractions" k_ONE_fractions) (E_Twice : Err K mg "Twice") (D_less : Def3 P w K mg base "less" ["one", "other"] 39 fn_less) (D_over : Def3 P w K mg base "over" ["one", "other"] 39 fn_over) (D_worth : Def3 P w K mg base "worth" ["poly", "x"] 40 fn_worth) (D_sum_of : Def3 P w K mg base "sum_of" ["one", "other"] 40 fn_sum_of) (D_times_all : Def3 P w K mg base "times_all" ["poly", "g"] 40 fn_times_all) (D_product : Def3 P w K mg base "product" ["one", "other"] 40 fn_product) (D_without_root : Def3 P w K mg base "without_root" ["x"] 38 fn_without_root) {f : Addr} {fd : FuncData} (Fd : FunD K (df_through).name (df_through).qual (df_through).params (df_through).body (df_through).scope ((df_through).dvs K) ((df_through).kws K) f fd) (hm : mg (df_through).name = some (.ref f)) :
    DefAt P w K mg base "through" ["pairs"] 41 fn_through f fd := by
  have nd : (["pairs", "found", "roots", "x", "y", "steep", "lacking"] : List Str).Nodup := sc_through.nd
  refine def3 (d := df_through) (k := 40) (m := 1) (n := 7) (t := d_through) Fd rfl hm sc_through rfl rfl (fun _ _ _ _ _ _ us hl => match us, hl with | [_], _ => rfl) (fun cdv A outer s H Ex W hr tk hp => ?_)
  have sr : Sr (cx3 P w K mg base ["pairs", "found", "roots", "x", "y", "steep", "lacking"] (df_through).qual (df_through).scope f cdv A outer s H Ex) := ⟨SR, TR, _, _, rfl, rfl, rfl, rfl, rfl⟩
  have hu := hr.units
  have hu1 : (cx3 P w K mg base ["pairs", "found", "roots", "x", "y", "steep", "lacking"] (df_through).qual (df_through).scope f cdv A outer s H Ex).A.units + 65 < cLine := by have := hr.un; omega
  exact (ss3_cons (s3_set 1 (e3_tup a3_nil) nd)
    (ss3_cons (s3_set 2 (e3_tup (a3_cons (e3_cst C_ONE_fractions) a3_nil)) nd)
    (ss3_cons (s3_for hp rfl (i3_lt (e3_var 0)) (g3_tup rfl (gs3_cons (g3_name 3 nd) (gs3_cons (g3_name 4 nd) gs3_nil))) (ss3_cons (s3_set 5 (e3_callD D_worth hr tk (a3_cons (e3_var 2) (a3_cons (e3_var 3) a3_nil))) nd)
    (ss3_cons (s3_if (t3_cmp (op_eqD hu) ok_eq (e3_var 5) (e3_cst C_NOUGHT_fractions)) (ss3_one (s3_err E_Twice rfl tk)) ss3_nil)
    (ss3_cons (s3_set 6 (e3_callD D_over hr tk (a3_cons (e3_callD D_less hr tk (a3_cons (e3_var 4) (a3_cons (e3_callD D_worth hr tk (a3_cons (e3_var 1) (a3_cons (e3_var 3) a3_nil))) a3_nil))) (a3_cons (e3_var 5) a3_nil))) nd)
    (ss3_cons (s3_set 1 (e3_callD D_sum_of hr tk (a3_cons (e3_var 1) (a3_cons (e3_callD D_times_all hr tk (a3_cons (e3_var 2) (a3_cons (e3_var 6) a3_nil))) a3_nil))) nd)
    (ss3_one (s3_set 2 (e3_callD D_product hr tk (a3_cons (e3_var 2) (a3_cons (e3_callD D_without_root hr tk (a3_cons (e3_var 3) a3_nil)) a3_nil))) nd)))))))
    (ss3_one (s3_ret (e3_var 1))))))
theorem sc_unsigned : FnScope ["one"] ["one"] (df_unsigned).scope := ⟨rfl, rfl, rfl, by decide +kernel, rfl, by decide +kernel, by decide +kernel⟩
theorem w_unsigned (F : Free mg) (SR : base.NoSeer) (TR : P.given.tree = none) {f : Addr} {fd : FuncData} (Fd : FunD K (df_unsigned).name (df_unsigned).qual (df_unsigned).params (df_unsigned).body (df_unsigned).scope ((df_unsigned).dvs K) ((df_unsigned).kws K) f fd) (hm : mg (df_unsigned).name = some (.ref f)) :
    DefAt P w K mg base "unsigned" ["one"] 37 fn_unsigned f fd := by
  have nd : (["one"] : List Str).Nodup := sc_unsigned.nd
  refine def3 (d := df_unsigned) (k := 36) (m := 1) (n := 1) (t := d_unsigned) Fd rfl hm sc_unsigned rfl rfl (fun _ _ _ _ _ _ us hl => match us, hl with | [_], _ => rfl) (fun cdv A outer s H Ex W hr tk hp => ?_)
  have sr : Sr (cx3 P w K mg base ["one"] (df_unsigned).qual (df_unsigned).scope f cdv A outer s H Ex) := ⟨SR, TR, _, _, rfl, rfl, rfl, rfl, rfl⟩
  have hu := hr.units
  have hu1 : (cx3 P w K mg base ["one"] (df_unsigned).qual (df_unsigned).scope f cdv A outer s H Ex).A.units + 65 < cLine := by have := hr.un; omega
  exact (ss3_one (s3_ret (e3_tup (a3_cons (e3_blt call_abs ok_abs F.abs (a3_cons (e3_ix ix_seq ok_ix (e3_var 0) e3_int) a3_nil)) (a3_cons (e3_ix ix_seq ok_ix (e3_var 0) e3_int) a3_nil)))))
theorem sc_opposite : FnScope ["one"] ["one"] (df_opposite).scope := ⟨rfl, rfl, rfl, by decide +kernel, rfl, by decide +kernel, by decide +kernel⟩
theorem w_opposite (F : Free mg) (SR : base.NoSeer) (TR : P.given.tree = none) {f : Addr} {fd : FuncData} (Fd : FunD K (df_opposite).name (df_opposite).qual (df_opposite).params (df_opposite).body (df_opposite).scope ((df_opposite).dvs K) ((df_opposite).kws K) f fd) (hm : mg (df_opposite).name = some (.ref f)) :
    DefAt P w K mg base "opposite" ["one"] 37 fn_opposite f fd := by
  have nd : (["one"] : List Str).Nodup := sc_opposite.nd
  refine def3 (d := df_opposite) (k := 36) (m := 1) (n := 1) (t := d_opposite) Fd rfl hm sc_opposite rfl rfl (fun _ _ _ _ _ _ us hl => match us, hl with | [_], _ => rfl) (fun cdv A outer s H Ex W hr tk hp => ?_)
  have sr : Sr (cx3 P w K mg base ["one"] (df_opposite).qual (df_opposite).scope f cdv A outer s H Ex) := ⟨SR, TR, _, _, rfl, rfl, rfl, rfl, rfl⟩
  have hu := hr.units
  have hu1 : (cx3 P w K mg base ["one"] (df_opposite).qual (df_opposite).scope f cdv A outer s H Ex).A.units + 65 < cLine := by have := hr.un; omega
  exact (ss3_one (s3_ret (e3_tup (a3_cons (e3_op op_sub ok_sub e3_int (e3_ix ix_seq ok_ix (e3_var 0) e3_int)) (a3_cons (e3_ix ix_seq ok_ix (e3_var 0) e3_int) a3_nil)))))
theorem sc_room_of : FnScope ["reference", "found", "one", "spot", "x", "y", "w"] ["reference"] (df_room_of).scope := ⟨rfl, rfl, rfl, by decide +kernel, rfl, by decide +kernel, by decide +kernel⟩
theorem w_room_of (F : Free mg) (SR : base.NoSeer) (TR : P.given.tree = none) (C_NOUGHT_levers : Cst K mg "NOUGHT_levers" k_NOUGHT_levers) (D_plus : Def3 P w K mg base "plus" ["one", "other"] 39 fn_plus) (D_over : Def3 P w K mg base "over" ["one", "other"] 39 fn_over) (D_levers : Def3 P w K mg base "levers" ["numbers"] 41 fn_levers) (D_unsigned : Def3 P w K mg base "unsigned" ["one"] 37 fn_unsigned) {f : Addr} {fd : FuncData} (Fd : FunD K (df_room_of).name (df_room_of).qual (df_room_of).params (df_room_of).body (df_room_of).scope ((df_room_of).dvs K) ((df_room_of).kws K) f fd) (hm : mg (df_room_of).name = some (.ref f)) :
    DefAt P w K mg base "room_of" ["reference"] 42 fn_room_of f fd := by
  have nd : (["reference", "found", "one", "spot", "x", "y", "w"] : List Str).Nodup := sc_room_of.nd
  refine def3 (d := df_room_of) (k := 41) (m := 1) (n := 7) (t := d_room_of) Fd rfl hm sc_room_of rfl rfl (fun _ _ _ _ _ _ us hl => match us, hl with | [_], _ => rfl) (fun cdv A outer s H Ex W hr tk hp => ?_)
  have sr : Sr (cx3 P w K mg base ["reference", "found", "one", "spot", "x", "y", "w"] (df_room_of).qual (df_room_of).scope f cdv A outer s H Ex) := ⟨SR, TR, _, _, rfl, rfl, rfl, rfl, rfl⟩
  have hu := hr.units
  have hu1 : (cx3 P w K mg base ["reference", "found", "one", "spot", "x", "y", "w"] (df_room_of).qual (df_room_of).scope f cdv A outer s H Ex).A.units + 65 < cLine := by have := hr.un; omega
  exact (ss3_cons (s3_set 1 (e3_cst C_NOUGHT_levers) nd)
    (ss3_cons (s3_for hp rfl (i3_zip F.zip (e3_callD D_levers hr tk (a3_cons (e3_lc (own := [("x", 4), ("y", 5), ("w", 6)]) rfl nd (i3_lt (e3_var 0)) (by kernel_rfl) (fun _ _ _ _ _ => (g3_tup rfl (gs3_cons (g3_name 4 nd) (gs3_cons (g3_name 5 nd) (gs3_cons (g3_name 6 nd) gs3_nil))))) (fun _ _ _ _ _ => ts3_nil) (fun _ _ _ _ _ => (e3_var 4))) a3_nil)) (e3_var 0)) (g3_tup rfl (gs3_cons (g3_name 2 nd) (gs3_cons (g3_name 3 nd) gs3_nil))) (ss3_one (s3_set 1 (e3_callD D_plus hr tk (a3_cons (e3_var 1) (a3_cons (e3_callD D_over hr tk (a3_cons (e3_callD D_unsigned hr tk (a3_cons (e3_var 2) a3_nil)) (a3_cons (e3_ix ix_seq ok_ix (e3_var 3) e3_int) a3_nil))) a3_nil))) nd)))
    (ss3_one (s3_ret (e3_var 1)))))
theorem sc_first_error : FnScope ["reference", "tilt", "x", "y", "w", "found"] ["reference"] (df_first_error).scope := ⟨rfl, rfl, rfl, by decide +kernel, rfl, by decide +kernel, by decide +kernel⟩
theorem w_first_error (F : Free mg) (SR : base.NoSeer) (TR : P.given.tree = none) (D_over : Def3 P w K mg base "over" ["one", "other"] 39 fn_over) (D_weighed : Def3 P w K mg base "weighed" ["numbers", "worths"] 42 fn_weighed) (D_opposite : Def3 P w K mg base "opposite" ["one"] 37 fn_opposite) (D_room_of : Def3 P w K mg base "room_of" ["reference"] 42 fn_room_of) {f : Addr} {fd : FuncData} (Fd : FunD K (df_first_error).name (df_first_error).qual (df_first_error).params (df_first_error).body (df_first_error).scope ((df_first_error).dvs K) ((df_first_error).kws K) f fd) (hm : mg (df_first_error).name = some (.ref f)) :
    DefAt P w K mg base "first_error" ["reference"] 43 fn_first_error f fd := by
  have nd : (["reference", "tilt", "x", "y", "w", "found"] : List Str).Nodup := sc_first_error.nd
  refine def3 (d := df_first_error) (k := 42) (m := 1) (n := 6) (t := d_first_error) Fd rfl hm sc_first_error rfl rfl (fun _ _ _ _ _ _ us hl => match us, hl with | [_], _ => rfl) (fun cdv A outer s H Ex W hr tk hp => ?_)
  have sr : Sr (cx3 P w K mg base ["reference", "tilt", "x", "y", "w", "found"] (df_first_error).qual (df_first_error).scope f cdv A outer s H Ex) := ⟨SR, TR, _, _, rfl, rfl, rfl, rfl, rfl⟩
  have hu := hr.units
  have hu1 : (cx3 P w K mg base ["reference", "tilt", "x", "y", "w", "found"] (df_first_error).qual (df_first_error).scope f cdv A outer s H Ex).A.units + 65 < cLine := by have := hr.un; omega
  exact (ss3_cons (s3_set 1 (e3_callD D_weighed hr tk (a3_cons (e3_lc (own := [("x", 2), ("y", 3), ("w", 4)]) rfl nd (i3_lt (e3_var 0)) (by kernel_rfl) (fun _ _ _ _ _ => (g3_tup rfl (gs3_cons (g3_name 2 nd) (gs3_cons (g3_name 3 nd) (gs3_cons (g3_name 4 nd) gs3_nil))))) (fun _ _ _ _ _ => ts3_nil) (fun _ _ _ _ _ => (e3_var 2))) (a3_cons (e3_lc (own := [("x", 2), ("y", 3), ("w", 4)]) rfl nd (i3_lt (e3_var 0)) (by kernel_rfl) (fun _ _ _ _ _ => (g3_tup rfl (gs3_cons (g3_name 2 nd) (gs3_cons (g3_name 3 nd) (gs3_cons (g3_name 4 nd) gs3_nil))))) (fun _ _ _ _ _ => ts3_nil) (fun _ _ _ _ _ => (e3_var 3))) a3_nil))) nd)
    (ss3_cons (s3_set 5 (e3_callD D_over hr tk (a3_cons (e3_var 1) (a3_cons (e3_callD D_room_of hr tk (a3_cons (e3_var 0) a3_nil)) a3_nil))) nd)
    (ss3_one (s3_ret (e3_if (t3_cmp (op_eqD hu) ok_eq (e3_op op_modN ok_mod (e3_blt call_len_seq ok_len F.len (a3_cons (e3_var 0) a3_nil)) e3_int) e3_int) (e3_var 5) (e3_callD D_opposite hr tk (a3_cons (e3_var 5) a3_nil)))))))
theorem sc_level : FnScope ["reference", "h", "pairs", "k", "x", "y", "w", "turned"] ["reference"] (df_level).scope := ⟨rfl, rfl, rfl, by decide +kernel, rfl, by decide +kernel, by decide +kernel⟩
theorem w_level (F : Free mg) (SR : base.NoSeer) (TR : P.given.tree = none) (D_less : Def3 P w K mg base "less" ["one", "other"] 39 fn_less) (D_over : Def3 P w K mg base "over" ["one", "other"] 39 fn_over) (D_turned : Def3 P w K mg base "turned" ["one"] 37 fn_turned) (D_through : Def3 P w K mg base "through" ["pairs"] 41 fn_through) (D_opposite : Def3 P w K mg base "opposite" ["one"] 37 fn_opposite) (D_first_error : Def3 P w K mg base "first_error" ["reference"] 43 fn_first_error) {f : Addr} {fd : FuncData} (Fd : FunD K (df_level).name (df_level).qual (df_level).params (df_level).body (df_level).scope ((df_level).dvs K) ((df_level).kws K) f fd) (hm : mg (df_level).name = some (.ref f)) :
    DefAt P w K mg base "level" ["reference"] 44 fn_level f fd := by
  have nd : (["reference", "h", "pairs", "k", "x", "y", "w", "turned"] : List Str).Nodup := sc_level.nd
  refine def3 (d := df_level) (k := 43) (m := 1) (n := 8) (t := d_level) Fd rfl hm sc_level rfl rfl (fun _ _ _ _ _ _ us hl => match us, hl with | [_], _ => rfl) (fun cdv A outer s H Ex W hr tk hp => ?_)
  have sr : Sr (cx3 P w K mg base ["reference", "h", "pairs", "k", "x", "y", "w", "turned"] (df_level).qual (df_level).scope f cdv A outer s H Ex) := ⟨SR, TR, _, _, rfl, rfl, rfl, rfl, rfl⟩
  have hu := hr.units
  have hu1 : (cx3 P w K mg base ["reference", "h", "pairs", "k", "x", "y", "w", "turned"] (df_level).qual (df_level).scope f cdv A outer s H Ex).A.units + 65 < cLine := by have := hr.un; omega
  exact (ss3_cons (s3_set 1 (e3_callD D_first_error hr tk (a3_cons (e3_var 0) a3_nil)) nd)
    (ss3_cons (s3_set 2 (e3_lst a3_nil) nd)
    (ss3_cons (s3_for hp rfl (i3_enumB F.enumerate (e3_slice (e3_var 0) (o3_so e3_int) o3_no)) (g3_tup rfl (gs3_cons (g3_name 3 nd) (gs3_cons (g3_tup rfl (gs3_cons (g3_name 4 nd) (gs3_cons (g3_name 5 nd) (gs3_cons (g3_name 6 nd) gs3_nil)))) gs3_nil))) (ss3_cons (s3_set 7 (e3_if (t3_cmp (op_eqD hu) ok_eq (e3_op op_modN ok_mod (e3_var 3) e3_int) e3_int) (e3_var 1) (e3_callD D_opposite hr tk (a3_cons (e3_var 1) a3_nil))) nd)
    (ss3_one (s3_expr (e3_mt PySem.F.plainAttrs_list PySem.F.slot_list_append PySem.F.type_list_append mt_append ok_append (e3_var 2) (a3_cons (e3_tup (a3_cons (e3_var 4) (a3_cons (e3_callD D_less hr tk (a3_cons (e3_var 5) (a3_cons (e3_callD D_over hr tk (a3_cons (e3_var 7) (a3_cons (e3_var 6) a3_nil))) a3_nil))) a3_nil))) a3_nil))))))
    (ss3_one (s3_ret (e3_tup (a3_cons (e3_callD D_through hr tk (a3_cons (e3_var 2) a3_nil)) (a3_cons (e3_var 1) a3_nil))))))))
theorem sc_bound : FnScope ["reference"] ["reference"] (df_bound).scope := ⟨rfl, rfl, rfl, by decide +kernel, rfl, by decide +kernel, by decide +kernel⟩
theorem w_bound (F : Free mg) (SR : base.NoSeer) (TR : P.given.tree = none) (D_unsigned : Def3 P w K mg base "unsigned" ["one"] 37 fn_unsigned) (D_first_error : Def3 P w K mg base "first_error" ["reference"] 43 fn_first_error) {f : Addr} {fd : FuncData} (Fd : FunD K (df_bound).name (df_bound).qual (df_bound).params (df_bound).body (df_bound).scope ((df_bound).dvs K) ((df_bound).kws K) f fd) (hm : mg (df_bound).name = some (.ref f)) :
    DefAt P w K mg base "bound" ["reference"] 44 fn_bound f fd := by
  have nd : (["reference"] : List Str).Nodup := sc_bound.nd
  refine def3 (d := df_bound) (k := 43) (m := 1) (n := 1) (t := d_bound) Fd rfl hm sc_bound rfl rfl (fun _ _ _ _ _ _ us hl => match us, hl with | [_], _ => rfl) (fun cdv A outer s H Ex W hr tk hp => ?_)
  have sr : Sr (cx3 P w K mg base ["reference"] (df_bound).qual (df_bound).scope f cdv A outer s H Ex) := ⟨SR, TR, _, _, rfl, rfl, rfl, rfl, rfl⟩
  have hu := hr.units
  have hu1 : (cx3 P w K mg base ["reference"] (df_bound).qual (df_bound).scope f cdv A outer s H Ex).A.units + 65 < cLine := by have := hr.un; omega
  exact (ss3_one (s3_ret (e3_callD D_unsigned hr tk (a3_cons (e3_callD D_first_error hr tk (a3_cons (e3_var 0) a3_nil)) a3_nil))))
theorem sc_law_pot : FnScope ["_law_script", "_law_k", "_law_cell"] ["_law_script", "_law_k"] (df_law_pot).scope := ⟨rfl, rfl, rfl, by decide +kernel, rfl, by decide +kernel, by decide +kernel⟩
theorem w_law_pot (F : Free mg) (SR : base.NoSeer) (TR : P.given.tree = none) {f : Addr} {fd : FuncData} (Fd : FunD K (df_law_pot).name (df_law_pot).qual (df_law_pot).params (df_law_pot).body (df_law_pot).scope ((df_law_pot).dvs K) ((df_law_pot).kws K) f fd) (hm : mg (df_law_pot).name = some (.ref f)) :
    DefAt P w K mg base "_law_pot" ["_law_script", "_law_k"] 37 fn_law_pot f fd := by
  have nd : (["_law_script", "_law_k", "_law_cell"] : List Str).Nodup := sc_law_pot.nd
  refine def3 (d := df_law_pot) (k := 36) (m := 2) (n := 3) (t := d_law_pot) Fd rfl hm sc_law_pot rfl rfl (fun _ _ _ _ _ _ us hl => match us, hl with | [_, _], _ => rfl) (fun cdv A outer s H Ex W hr tk hp => ?_)
  have sr : Sr (cx3 P w K mg base ["_law_script", "_law_k", "_law_cell"] (df_law_pot).qual (df_law_pot).scope f cdv A outer s H Ex) := ⟨SR, TR, _, _, rfl, rfl, rfl, rfl, rfl⟩
  have hu := hr.units
  have hu1 : (cx3 P w K mg base ["_law_script", "_law_k", "_law_cell"] (df_law_pot).qual (df_law_pot).scope f cdv A outer s H Ex).A.units + 65 < cLine := by have := hr.un; omega
  exact (ss3_cons (s3_set 2 (e3_if (t3_cmp op_lt ok_lt (e3_var 1) (e3_blt call_len_seq ok_len F.len (a3_cons (e3_var 0) a3_nil))) (e3_ix ix_seq ok_ix (e3_var 0) (e3_var 1)) e3_int) nd)
    (ss3_one (s3_ret (e3_lst (a3_cons (e3_blt (call_max2 rfl) ok_max2 F.max (a3_cons e3_int (a3_cons (e3_op op_sub ok_sub (e3_blt call_abs ok_abs F.abs (a3_cons (e3_var 2) a3_nil)) (e3_op op_pow ok_pow e3_int e3_int)) a3_nil))) (a3_cons (e3_op op_add3 ok_add (e3_op op_modN ok_mod (e3_op op_add3 ok_add (e3_op op_add3 ok_add (e3_blt call_abs ok_abs F.abs (a3_cons (e3_var 2) a3_nil)) (e3_op op_mul3 ok_mul e3_int (e3_var 1))) e3_int) e3_int) e3_int) a3_nil))))))
theorem sc_law_draw : FnScope ["_law_pot_here", "_law_many", "_law_digit"] ["_law_pot_here", "_law_many"] (df_law_draw).scope := ⟨rfl, rfl, rfl, by decide +kernel, rfl, by decide +kernel, by decide +kernel⟩
theorem w_law_draw (F : Free mg) (SR : base.NoSeer) (TR : P.given.tree = none) {f : Addr} {fd : FuncData} (Fd : FunD K (df_law_draw).name (df_law_draw).qual (df_law_draw).params (df_law_draw).body (df_law_draw).scope ((df_law_draw).dvs K) ((df_law_draw).kws K) f fd) (hm : mg (df_law_draw).name = some (.ref f)) :
    DefAt P w K mg base "_law_draw" ["_law_pot_here", "_law_many"] 37 fn_law_draw f fd := by
  have nd : (["_law_pot_here", "_law_many", "_law_digit"] : List Str).Nodup := sc_law_draw.nd
  refine def3 (d := df_law_draw) (k := 36) (m := 2) (n := 3) (t := d_law_draw) Fd rfl hm sc_law_draw rfl rfl (fun _ _ _ _ _ _ us hl => match us, hl with | [_, _], _ => rfl) (fun cdv A outer s H Ex W hr tk hp => ?_)
  have sr : Sr (cx3 P w K mg base ["_law_pot_here", "_law_many", "_law_digit"] (df_law_draw).qual (df_law_draw).scope f cdv A outer s H Ex) := ⟨SR, TR, _, _, rfl, rfl, rfl, rfl, rfl⟩
  have hu := hr.units
  have hu1 : (cx3 P w K mg base ["_law_pot_here", "_law_many", "_law_digit"] (df_law_draw).qual (df_law_draw).scope f cdv A outer s H Ex).A.units + 65 < cLine := by have := hr.un; omega
  exact (ss3_cons (s3_if (t3_cmp op_gt ok_gt (e3_ix ix_seq ok_ix (e3_var 0) e3_int) e3_int) (ss3_cons (s3_asg (e3_blt call_divmodW ok_divmod F.divmod (a3_cons (e3_ix ix_seq ok_ix (e3_var 0) e3_int) (a3_cons (e3_var 1) a3_nil))) (g3_tup rfl (gs3_cons (g3_sub (e3_var 0) e3_int) (gs3_cons (g3_name 2 nd) gs3_nil))))
    (ss3_one (s3_ret (e3_var 2)))) ss3_nil)
    (ss3_cons (s3_asg (e3_op op_modN ok_mod (e3_op op_add3 ok_add (e3_op op_mul3 ok_mul (e3_ix ix_seq ok_ix (e3_var 0) e3_int) e3_int) e3_int) e3_int) (g3_sub (e3_var 0) e3_int))
    (ss3_one (s3_ret (e3_op op_modN ok_mod (e3_op (op_fdiv4 sr hr) ok_fdiv (e3_op op_modN ok_mod (e3_op op_mul3 ok_mul (e3_ix ix_seq ok_ix (e3_var 0) e3_int) (e3_ix ix_seq ok_ix (e3_var 0) e3_int)) e3_int) e3_int) (e3_var 1))))))
theorem sc_law_fraction : FnScope ["_law_a", "_law_b", "_law_one", "_law_other"] ["_law_a", "_law_b"] (df_law_fraction).scope := ⟨rfl, rfl, rfl, by decide +kernel, rfl, by decide +kernel, by decide +kernel⟩
theorem w_law_fraction (F : Free mg) (SR : base.NoSeer) (TR : P.given.tree = none) {f : Addr} {fd : FuncData} (Fd : FunD K (df_law_fraction).name (df_law_fraction).qual (df_law_fraction).params (df_law_fraction).body (df_law_fraction).scope ((df_law_fraction).dvs K) ((df_law_fraction).kws K) f fd) (hm : mg (df_law_fraction).name = some (.ref f)) :
    DefAt P w K mg base "_law_fraction" ["_law_a", "_law_b"] 37 fn_law_fraction f fd := by
  have nd : (["_law_a", "_law_b", "_law_one", "_law_other"] : List Str).Nodup := sc_law_fraction.nd
  refine def3 (d := df_law_fraction) (k := 36) (m := 2) (n := 4) (t := d_law_fraction) Fd rfl hm sc_law_fraction rfl rfl (fun _ _ _ _ _ _ us hl => match us, hl with | [_, _], _ => rfl) (fun cdv A outer s H Ex W hr tk hp => ?_)
  have sr : Sr (cx3 P w K mg base ["_law_a", "_law_b", "_law_one", "_law_other"] (df_law_fraction).qual (df_law_fraction).scope f cdv A outer s H Ex) := ⟨SR, TR, _, _, rfl, rfl, rfl, rfl, rfl⟩
  have hu := hr.units
  have hu1 : (cx3 P w K mg base ["_law_a", "_law_b", "_law_one", "_law_other"] (df_law_fraction).qual (df_law_fraction).scope f cdv A outer s H Ex).A.units + 65 < cLine := by have := hr.un; omega
  exact (ss3_cons (s3_par 2 3 rfl (e3_blt call_abs ok_abs F.abs (a3_cons (e3_var 0) a3_nil)) (e3_blt call_abs ok_abs F.abs (a3_cons (e3_var 1) a3_nil)) nd)
    (ss3_cons (s3_while hp (t3_cmp (op_neD hu) ok_ne (e3_var 3) e3_int) (ss3_one (s3_par 2 3 rfl (e3_var 3) (e3_op op_modN ok_mod (e3_var 2) (e3_var 3)) nd)))
    (ss3_cons (s3_if (t3_cmp op_lt ok_lt (e3_var 1) e3_int) (ss3_one (s3_set 2 (e3_un un_neg ok_neg (e3_var 2)) nd)) ss3_nil)
    (ss3_one (s3_ret (e3_tup (a3_cons (e3_op (op_fdiv4 sr hr) ok_fdiv (e3_var 0) (e3_var 2)) (a3_cons (e3_op (op_fdiv4 sr hr) ok_fdiv (e3_var 1) (e3_var 2)) a3_nil))))))))
theorem sc_law_plus : FnScope ["_law_one", "_law_other"] ["_law_one", "_law_other"] (df_law_plus).scope := ⟨rfl, rfl, rfl, by decide +kernel, rfl, by decide +kernel, by decide +kernel⟩
theorem w_law_plus (F : Free mg) (SR : base.NoSeer) (TR : P.given.tree = none) (D_law_fraction : Def3 P w K mg base "_law_fraction" ["_law_a", "_law_b"] 37 fn_law_fraction) {f : Addr} {fd : FuncData} (Fd : FunD K (df_law_plus).name (df_law_plus).qual (df_law_plus).params (df_law_plus).body (df_law_plus).scope ((df_law_plus).dvs K) ((df_law_plus).kws K) f fd) (hm : mg (df_law_plus).name = some (.ref f)) :
    DefAt P w K mg base "_law_plus" ["_law_one", "_law_other"] 38 fn_law_plus f fd := by
  have nd : (["_law_one", "_law_other"] : List Str).Nodup := sc_law_plus.nd
  refine def3 (d := df_law_plus) (k := 37) (m := 2) (n := 2) (t := d_law_plus) Fd rfl hm sc_law_plus rfl rfl (fun _ _ _ _ _ _ us hl => match us, hl with | [_, _], _ => rfl) (fun cdv A outer s H Ex W hr tk hp => ?_)
  have sr : Sr (cx3 P w K mg base ["_law_one", "_law_other"] (df_law_plus).qual (df_law_plus).scope f cdv A outer s H Ex) := ⟨SR, TR, _, _, rfl, rfl, rfl, rfl, rfl⟩
  have hu := hr.units
  have hu1 : (cx3 P w K mg base ["_law_one", "_law_other"] (df_law_plus).qual (df_law_plus).scope f cdv A outer s H Ex).A.units + 65 < cLine := by have := hr.un; omega
  exact (ss3_one (s3_ret (e3_callD D_law_fraction hr tk (a3_cons (e3_op op_add3 ok_add (e3_op op_mul3 ok_mul (e3_ix ix_seq ok_ix (e3_var 0) e3_int) (e3_ix ix_seq ok_ix (e3_var 1) e3_int)) (e3_op op_mul3 ok_mul (e3_ix ix_seq ok_ix (e3_var 1) e3_int) (e3_ix ix_seq ok_ix (e3_var 0) e3_int))) (a3_cons (e3_op op_mul3 ok_mul (e3_ix ix_seq ok_ix (e3_var 0) e3_int) (e3_ix ix_seq ok_ix (e3_var 1) e3_int)) a3_nil)))))
theorem sc_law_less : FnScope ["_law_one", "_law_other"] ["_law_one", "_law_other"] (df_law_less).scope := ⟨rfl, rfl, rfl, by decide +kernel, rfl, by decide +kernel, by decide +kernel⟩
theorem w_law_less (F : Free mg) (SR : base.NoSeer) (TR : P.given.tree = none) (D_law_fraction : Def3 P w K mg base "_law_fraction" ["_law_a", "_law_b"] 37 fn_law_fraction) {f : Addr} {fd : FuncData} (Fd : FunD K (df_law_less).name (df_law_less).qual (df_law_less).params (df_law_less).body (df_law_less).scope ((df_law_less).dvs K) ((df_law_less).kws K) f fd) (hm : mg (df_law_less).name = some (.ref f)) :
    DefAt P w K mg base "_law_less" ["_law_one", "_law_other"] 38 fn_law_less f fd := by
  have nd : (["_law_one", "_law_other"] : List Str).Nodup := sc_law_less.nd
  refine def3 (d := df_law_less) (k := 37) (m := 2) (n := 2) (t := d_law_less) Fd rfl hm sc_law_less rfl rfl (fun _ _ _ _ _ _ us hl => match us, hl with | [_, _], _ => rfl) (fun cdv A outer s H Ex W hr tk hp => ?_)
  have sr : Sr (cx3 P w K mg base ["_law_one", "_law_other"] (df_law_less).qual (df_law_less).scope f cdv A outer s H Ex) := ⟨SR, TR, _, _, rfl, rfl, rfl, rfl, rfl⟩
  have hu := hr.units
  have hu1 : (cx3 P w K mg base ["_law_one", "_law_other"] (df_law_less).qual (df_law_less).scope f cdv A outer s H Ex).A.units + 65 < cLine := by have := hr.un; omega
  exact (ss3_one (s3_ret (e3_callD D_law_fraction hr tk (a3_cons (e3_op op_sub ok_sub (e3_op op_mul3 ok_mul (e3_ix ix_seq ok_ix (e3_var 0) e3_int) (e3_ix ix_seq ok_ix (e3_var 1) e3_int)) (e3_op op_mul3 ok_mul (e3_ix ix_seq ok_ix (e3_var 1) e3_int) (e3_ix ix_seq ok_ix (e3_var 0) e3_int))) (a3_cons (e3_op op_mul3 ok_mul (e3_ix ix_seq ok_ix (e3_var 0) e3_int) (e3_ix ix_seq ok_ix (e3_var 1) e3_int)) a3_nil)))))
theorem sc_law_times : FnScope ["_law_one", "_law_other"] ["_law_one", "_law_other"] (df_law_times).scope := ⟨rfl, rfl, rfl, by decide +kernel, rfl, by decide +kernel, by decide +kernel⟩
theorem w_law_times (F : Free mg) (SR : base.NoSeer) (TR : P.given.tree = none) (D_law_fraction : Def3 P w K mg base "_law_fraction" ["_law_a", "_law_b"] 37 fn_law_fraction) {f : Addr} {fd : FuncData} (Fd : FunD K (df_law_times).name (df_law_times).qual (df_law_times).params (df_law_times).body (df_law_times).scope ((df_law_times).dvs K) ((df_law_times).kws K) f fd) (hm : mg (df_law_times).name = some (.ref f)) :
    DefAt P w K mg base "_law_times" ["_law_one", "_law_other"] 38 fn_law_times f fd := by
  have nd : (["_law_one", "_law_other"] : List Str).Nodup := sc_law_times.nd
  refine def3 (d := df_law_times) (k := 37) (m := 2) (n := 2) (t := d_law_times) Fd rfl hm sc_law_times rfl rfl (fun _ _ _ _ _ _ us hl => match us, hl with | [_, _], _ => rfl) (fun cdv A outer s H Ex W hr tk hp => ?_)
  have sr : Sr (cx3 P w K mg base ["_law_one", "_law_other"] (df_law_times).qual (df_law_times).scope f cdv A outer s H Ex) := ⟨SR, TR, _, _, rfl, rfl, rfl, rfl, rfl⟩
  have hu := hr.units
  have hu1 : (cx3 P w K mg base ["_law_one", "_law_other"] (df_law_times).qual (df_law_times).scope f cdv A outer s H Ex).A.units + 65 < cLine := by have := hr.un; omega
  exact (ss3_one (s3_ret (e3_callD D_law_fraction hr tk (a3_cons (e3_op op_mul3 ok_mul (e3_ix ix_seq ok_ix (e3_var 0) e3_int) (e3_ix ix_seq ok_ix (e3_var 1) e3_int)) (a3_cons (e3_op op_mul3 ok_mul (e3_ix ix_seq ok_ix (e3_var 0) e3_int) (e3_ix ix_seq ok_ix (e3_var 1) e3_int)) a3_nil)))))
theorem sc_law_by : FnScope ["_law_one", "_law_other"] ["_law_one", "_law_other"] (df_law_by).scope := ⟨rfl, rfl, rfl, by decide +kernel, rfl, by decide +kernel, by decide +kernel⟩
theorem w_law_by (F : Free mg) (SR : base.NoSeer) (TR : P.given.tree = none) (D_law_fraction : Def3 P w K mg base "_law_fraction" ["_law_a", "_law_b"] 37 fn_law_fraction) {f : Addr} {fd : FuncData} (Fd : FunD K (df_law_by).name (df_law_by).qual (df_law_by).params (df_law_by).body (df_law_by).scope ((df_law_by).dvs K) ((df_law_by).kws K) f fd) (hm : mg (df_law_by).name = some (.ref f)) :
    DefAt P w K mg base "_law_by" ["_law_one", "_law_other"] 38 fn_law_by f fd := by
  have nd : (["_law_one", "_law_other"] : List Str).Nodup := sc_law_by.nd
  refine def3 (d := df_law_by) (k := 37) (m := 2) (n := 2) (t := d_law_by) Fd rfl hm sc_law_by rfl rfl (fun _ _ _ _ _ _ us hl => match us, hl with | [_, _], _ => rfl) (fun cdv A outer s H Ex W hr tk hp => ?_)
  have sr : Sr (cx3 P w K mg base ["_law_one", "_law_other"] (df_law_by).qual (df_law_by).scope f cdv A outer s H Ex) := ⟨SR, TR, _, _, rfl, rfl, rfl, rfl, rfl⟩
  have hu := hr.units
  have hu1 : (cx3 P w K mg base ["_law_one", "_law_other"] (df_law_by).qual (df_law_by).scope f cdv A outer s H Ex).A.units + 65 < cLine := by have := hr.un; omega
  exact (ss3_one (s3_ret (e3_callD D_law_fraction hr tk (a3_cons (e3_op op_mul3 ok_mul (e3_ix ix_seq ok_ix (e3_var 0) e3_int) (e3_ix ix_seq ok_ix (e3_var 1) e3_int)) (a3_cons (e3_op op_mul3 ok_mul (e3_ix ix_seq ok_ix (e3_var 0) e3_int) (e3_ix ix_seq ok_ix (e3_var 1) e3_int)) a3_nil)))))
theorem sc_law_is_fraction : FnScope ["_law_thing", "_law_number"] ["_law_thing"] (df_law_is_fraction).scope := ⟨rfl, rfl, rfl, by decide +kernel, rfl, by decide +kernel, by decide +kernel⟩
theorem w_law_is_fraction (F : Free mg) (SR : base.NoSeer) (TR : P.given.tree = none) (D_law_fraction : Def3 P w K mg base "_law_fraction" ["_law_a", "_law_b"] 37 fn_law_fraction) {f : Addr} {fd : FuncData} (Fd : FunD K (df_law_is_fraction).name (df_law_is_fraction).qual (df_law_is_fraction).params (df_law_is_fraction).body (df_law_is_fraction).scope ((df_law_is_fraction).dvs K) ((df_law_is_fraction).kws K) f fd) (hm : mg (df_law_is_fraction).name = some (.ref f)) :
    DefAt P w K mg base "_law_is_fraction" ["_law_thing"] 38 fn_law_is_fraction f fd := by
  have nd : (["_law_thing", "_law_number"] : List Str).Nodup := sc_law_is_fraction.nd
  refine def3 (d := df_law_is_fraction) (k := 37) (m := 1) (n := 2) (t := d_law_is_fraction) Fd rfl hm sc_law_is_fraction rfl rfl (fun _ _ _ _ _ _ us hl => match us, hl with | [_], _ => rfl) (fun cdv A outer s H Ex W hr tk hp => ?_)
  have sr : Sr (cx3 P w K mg base ["_law_thing", "_law_number"] (df_law_is_fraction).qual (df_law_is_fraction).scope f cdv A outer s H Ex) := ⟨SR, TR, _, _, rfl, rfl, rfl, rfl, rfl⟩
  have hu := hr.units
  have hu1 : (cx3 P w K mg base ["_law_thing", "_law_number"] (df_law_is_fraction).qual (df_law_is_fraction).scope f cdv A outer s H Ex).A.units + 65 < cLine := by have := hr.un; omega
  exact (ss3_cons (s3_if (t3_w (w3_or (t3_not (t3_val (e3_blt call_isi ok_isi F.isinstance (a3_cons (e3_var 0) (a3_cons (e3_ty F.tuple) a3_nil))))) (w3_or1 (t3_cmp (op_neD hu) ok_ne (e3_blt call_len_seq ok_len F.len (a3_cons (e3_var 0) a3_nil)) e3_int)))) (ss3_one (s3_ret e3_bl)) ss3_nil)
    (ss3_cons (s3_for hp rfl (i3_lt (e3_var 0)) (g3_name 1 nd) (ss3_one (s3_if (t3_w (w3_or (t3_not (t3_val (e3_blt call_isi ok_isi F.isinstance (a3_cons (e3_var 1) (a3_cons (e3_ty F.int) a3_nil))))) (w3_or1 (t3_val (e3_blt call_isi ok_isi F.isinstance (a3_cons (e3_var 1) (a3_cons (e3_ty F.bool) a3_nil))))))) (ss3_one (s3_ret e3_bl)) ss3_nil)))
    (ss3_one (s3_ret (e3_and (e3_cmp op_gt ok_gt (e3_ix ix_seq ok_ix (e3_var 0) e3_int) e3_int) (e3_one (e3_cmp (op_eqD hu) ok_eq (e3_var 0) (e3_callD D_law_fraction hr tk (a3_cons (e3_ix ix_seq ok_ix (e3_var 0) e3_int) (a3_cons (e3_ix ix_seq ok_ix (e3_var 0) e3_int) a3_nil))))))))))
theorem sc_law_numbers : FnScope ["_law_pot_here", "_law_many", "_law_way", "_law_found", "_law_k", "_law_b", "_law_below", "_law_at_here"] ["_law_pot_here", "_law_many"] (df_law_numbers).scope := ⟨rfl, rfl, rfl, by decide +kernel, rfl, by decide +kernel, by decide +kernel⟩
theorem w_law_numbers (F : Free mg) (SR : base.NoSeer) (TR : P.given.tree = none) (D_law_draw : Def3 P w K mg base "_law_draw" ["_law_pot_here", "_law_many"] 37 fn_law_draw) (D_law_fraction : Def3 P w K mg base "_law_fraction" ["_law_a", "_law_b"] 37 fn_law_fraction) {f : Addr} {fd : FuncData} (Fd : FunD K (df_law_numbers).name (df_law_numbers).qual (df_law_numbers).params (df_law_numbers).body (df_law_numbers).scope ((df_law_numbers).dvs K) ((df_law_numbers).kws K) f fd) (hm : mg (df_law_numbers).name = some (.ref f)) :
    DefAt P w K mg base "_law_numbers" ["_law_pot_here", "_law_many"] 38 fn_law_numbers f fd := by
  have nd : (["_law_pot_here", "_law_many", "_law_way", "_law_found", "_law_k", "_law_b", "_law_below", "_law_at_here"] : List Str).Nodup := sc_law_numbers.nd
  refine def3 (d := df_law_numbers) (k := 37) (m := 2) (n := 8) (t := d_law_numbers) Fd rfl hm sc_law_numbers rfl rfl (fun _ _ _ _ _ _ us hl => match us, hl with | [_, _], _ => rfl) (fun cdv A outer s H Ex W hr tk hp => ?_)
  have sr : Sr (cx3 P w K mg base ["_law_pot_here", "_law_many", "_law_way", "_law_found", "_law_k", "_law_b", "_law_below", "_law_at_here"] (df_law_numbers).qual (df_law_numbers).scope f cdv A outer s H Ex) := ⟨SR, TR, _, _, rfl, rfl, rfl, rfl, rfl⟩
  have hu := hr.units
  have hu1 : (cx3 P w K mg base ["_law_pot_here", "_law_many", "_law_way", "_law_found", "_law_k", "_law_b", "_law_below", "_law_at_here"] (df_law_numbers).qual (df_law_numbers).scope f cdv A outer s H Ex).A.units + 65 < cLine := by have := hr.un; omega
  exact (ss3_cons (s3_set 2 (e3_callD D_law_draw hr tk (a3_cons (e3_var 0) (a3_cons e3_int a3_nil))) nd)
    (ss3_cons (s3_if (t3_cmp (op_eqD hu) ok_eq (e3_var 2) e3_int) (ss3_cons (s3_set 3 (e3_lst a3_nil) nd)
    (ss3_cons (s3_for hp rfl (i3_range1 F.range (a3_cons (e3_var 1) a3_nil)) (g3_name 4 nd) (ss3_cons (s3_set 5 (e3_op op_add3 ok_add e3_int (e3_callD D_law_draw hr tk (a3_cons (e3_var 0) (a3_cons (e3_op op_pow ok_pow e3_int e3_int) a3_nil)))) nd)
    (ss3_one (s3_expr (e3_mt PySem.F.plainAttrs_list PySem.F.slot_list_append PySem.F.type_list_append mt_append ok_append (e3_var 3) (a3_cons (e3_callD D_law_fraction hr tk (a3_cons (e3_op op_add3 ok_add (e3_op op_mul3 ok_mul (e3_op op_sub ok_sub (e3_var 4) e3_int) (e3_var 5)) (e3_callD D_law_draw hr tk (a3_cons (e3_var 0) (a3_cons (e3_var 5) a3_nil)))) (a3_cons (e3_var 5) a3_nil))) a3_nil))))))
    (ss3_one (s3_ret (e3_var 3))))) ss3_nil)
    (ss3_cons (s3_set 6 (e3_ix ix_seq ok_ix (e3_lst (a3_cons e3_int (a3_cons (e3_op op_add3 ok_add e3_int (e3_callD D_law_draw hr tk (a3_cons (e3_var 0) (a3_cons (e3_op op_sub ok_sub (e3_op op_pow ok_pow e3_int e3_int) e3_int) a3_nil)))) (a3_cons e3_int (a3_cons (e3_op op_add3 ok_add e3_int (e3_callD D_law_draw hr tk (a3_cons (e3_var 0) (a3_cons e3_int a3_nil)))) a3_nil))))) (e3_var 2)) nd)
    (ss3_cons (s3_set 7 (e3_ix ix_seq ok_ix (e3_lst (a3_cons (e3_op op_sub ok_sub (e3_callD D_law_draw hr tk (a3_cons (e3_var 0) (a3_cons e3_int a3_nil))) e3_int) (a3_cons (e3_op op_sub ok_sub (e3_callD D_law_draw hr tk (a3_cons (e3_var 0) (a3_cons (e3_op op_pow ok_pow e3_int e3_int) a3_nil))) (e3_op op_mul3 ok_mul e3_int (e3_op op_pow ok_pow e3_int e3_int))) (a3_cons e3_int (a3_cons (e3_op op_sub ok_sub (e3_callD D_law_draw hr tk (a3_cons (e3_var 0) (a3_cons e3_int a3_nil))) e3_int) a3_nil))))) (e3_var 2)) nd)
    (ss3_cons (s3_set 3 (e3_lst a3_nil) nd)
    (ss3_cons (s3_for hp rfl (i3_range1 F.range (a3_cons (e3_var 1) a3_nil)) (g3_name 4 nd) (ss3_cons (s3_expr (e3_mt PySem.F.plainAttrs_list PySem.F.slot_list_append PySem.F.type_list_append mt_append ok_append (e3_var 3) (a3_cons (e3_callD D_law_fraction hr tk (a3_cons (e3_var 7) (a3_cons (e3_var 6) a3_nil))) a3_nil)))
    (ss3_one (s3_set 7 (e3_op op_add3 ok_add (e3_op op_add3 ok_add (e3_var 7) e3_int) (e3_callD D_law_draw hr tk (a3_cons (e3_var 0) (a3_cons (e3_ix ix_seq ok_ix (e3_lst (a3_cons e3_int (a3_cons (e3_op op_pow ok_pow e3_int e3_int) (a3_cons e3_int (a3_cons e3_int a3_nil))))) (e3_var 2)) a3_nil)))) nd))))
    (ss3_one (s3_ret (e3_var 3)))))))))
theorem sc_law_value : FnScope ["_law_pot_here", "_law_way"] ["_law_pot_here"] (df_law_value).scope := ⟨rfl, rfl, rfl, by decide +kernel, rfl, by decide +kernel, by decide +kernel⟩
theorem w_law_value (F : Free mg) (SR : base.NoSeer) (TR : P.given.tree = none) (D_law_draw : Def3 P w K mg base "_law_draw" ["_law_pot_here", "_law_many"] 37 fn_law_draw) (D_law_fraction : Def3 P w K mg base "_law_fraction" ["_law_a", "_law_b"] 37 fn_law_fraction) {f : Addr} {fd : FuncData} (Fd : FunD K (df_law_value).name (df_law_value).qual (df_law_value).params (df_law_value).body (df_law_value).scope ((df_law_value).dvs K) ((df_law_value).kws K) f fd) (hm : mg (df_law_value).name = some (.ref f)) :
    DefAt P w K mg base "_law_value" ["_law_pot_here"] 38 fn_law_value f fd := by
  have nd : (["_law_pot_here", "_law_way"] : List Str).Nodup := sc_law_value.nd
  refine def3 (d := df_law_value) (k := 37) (m := 1) (n := 2) (t := d_law_value) Fd rfl hm sc_law_value rfl rfl (fun _ _ _ _ _ _ us hl => match us, hl with | [_], _ => rfl) (fun cdv A outer s H Ex W hr tk hp => ?_)
  have sr : Sr (cx3 P w K mg base ["_law_pot_here", "_law_way"] (df_law_value).qual (df_law_value).scope f cdv A outer s H Ex) := ⟨SR, TR, _, _, rfl, rfl, rfl, rfl, rfl⟩
  have hu := hr.units
  have hu1 : (cx3 P w K mg base ["_law_pot_here", "_law_way"] (df_law_value).qual (df_law_value).scope f cdv A outer s H Ex).A.units + 65 < cLine := by have := hr.un; omega
  exact (ss3_cons (s3_set 1 (e3_callD D_law_draw hr tk (a3_cons (e3_var 0) (a3_cons e3_int a3_nil))) nd)
    (ss3_cons (s3_if (t3_cmp (op_eqD hu) ok_eq (e3_var 1) e3_int) (ss3_one (s3_ret (e3_callD D_law_fraction hr tk (a3_cons (e3_op op_add3 ok_add (e3_op op_sub ok_sub (e3_callD D_law_draw hr tk (a3_cons (e3_var 0) (a3_cons (e3_op op_sub ok_sub (e3_op op_mul3 ok_mul e3_int (e3_op op_pow ok_pow e3_int e3_int)) e3_int) a3_nil))) (e3_op op_pow ok_pow e3_int e3_int)) e3_int) (a3_cons (e3_op op_add3 ok_add e3_int (e3_callD D_law_draw hr tk (a3_cons (e3_var 0) (a3_cons (e3_op op_sub ok_sub (e3_op op_pow ok_pow e3_int e3_int) e3_int) a3_nil)))) a3_nil))))) ss3_nil)
    (ss3_cons (s3_if (t3_cmp (op_eqD hu) ok_eq (e3_var 1) e3_int) (ss3_one (s3_ret (e3_callD D_law_fraction hr tk (a3_cons (e3_op op_sub ok_sub (e3_callD D_law_draw hr tk (a3_cons (e3_var 0) (a3_cons e3_int a3_nil))) e3_int) (a3_cons (e3_op op_add3 ok_add e3_int (e3_callD D_law_draw hr tk (a3_cons (e3_var 0) (a3_cons e3_int a3_nil)))) a3_nil))))) ss3_nil)
    (ss3_one (s3_ret (e3_tup (a3_cons (e3_op op_sub ok_sub (e3_callD D_law_draw hr tk (a3_cons (e3_var 0) (a3_cons e3_int a3_nil))) e3_int) (a3_cons e3_int a3_nil))))))))
theorem sc_law_weight : FnScope ["_law_pot_here", "_law_way", "_law_most"] ["_law_pot_here"] (df_law_weight).scope := ⟨rfl, rfl, rfl, by decide +kernel, rfl, by decide +kernel, by decide +kernel⟩
theorem w_law_weight (F : Free mg) (SR : base.NoSeer) (TR : P.given.tree = none) (D_law_draw : Def3 P w K mg base "_law_draw" ["_law_pot_here", "_law_many"] 37 fn_law_draw) (D_law_fraction : Def3 P w K mg base "_law_fraction" ["_law_a", "_law_b"] 37 fn_law_fraction) {f : Addr} {fd : FuncData} (Fd : FunD K (df_law_weight).name (df_law_weight).qual (df_law_weight).params (df_law_weight).body (df_law_weight).scope ((df_law_weight).dvs K) ((df_law_weight).kws K) f fd) (hm : mg (df_law_weight).name = some (.ref f)) :
    DefAt P w K mg base "_law_weight" ["_law_pot_here"] 38 fn_law_weight f fd := by
  have nd : (["_law_pot_here", "_law_way", "_law_most"] : List Str).Nodup := sc_law_weight.nd
  refine def3 (d := df_law_weight) (k := 37) (m := 1) (n := 3) (t := d_law_weight) Fd rfl hm sc_law_weight rfl rfl (fun _ _ _ _ _ _ us hl => match us, hl with | [_], _ => rfl) (fun cdv A outer s H Ex W hr tk hp => ?_)
  have sr : Sr (cx3 P w K mg base ["_law_pot_here", "_law_way", "_law_most"] (df_law_weight).qual (df_law_weight).scope f cdv A outer s H Ex) := ⟨SR, TR, _, _, rfl, rfl, rfl, rfl, rfl⟩
  have hu := hr.units
  have hu1 : (cx3 P w K mg base ["_law_pot_here", "_law_way", "_law_most"] (df_law_weight).qual (df_law_weight).scope f cdv A outer s H Ex).A.units + 65 < cLine := by have := hr.un; omega
  exact (ss3_cons (s3_set 1 (e3_callD D_law_draw hr tk (a3_cons (e3_var 0) (a3_cons e3_int a3_nil))) nd)
    (ss3_cons (s3_if (t3_cmp (op_eqD hu) ok_eq (e3_var 1) e3_int) (ss3_one (s3_ret (e3_tup (a3_cons e3_int (a3_cons e3_int a3_nil))))) ss3_nil)
    (ss3_cons (s3_set 2 (e3_ix ix_seq ok_ix (e3_lst (a3_cons e3_int (a3_cons (e3_op op_sub ok_sub (e3_op op_pow ok_pow e3_int e3_int) e3_int) a3_nil))) (e3_op op_sub ok_sub (e3_var 1) e3_int)) nd)
    (ss3_one (s3_ret (e3_callD D_law_fraction hr tk (a3_cons (e3_op op_add3 ok_add e3_int (e3_callD D_law_draw hr tk (a3_cons (e3_var 0) (a3_cons (e3_var 2) a3_nil)))) (a3_cons (e3_op op_add3 ok_add e3_int (e3_callD D_law_draw hr tk (a3_cons (e3_var 0) (a3_cons (e3_var 2) a3_nil)))) a3_nil))))))))
theorem sc_law_at : FnScope ["_law_poly", "_law_x", "_law_found", "_law_one"] ["_law_poly", "_law_x"] (df_law_at).scope := ⟨rfl, rfl, rfl, by decide +kernel, rfl, by decide +kernel, by decide +kernel⟩
theorem w_law_at (F : Free mg) (SR : base.NoSeer) (TR : P.given.tree = none) (D_law_plus : Def3 P w K mg base "_law_plus" ["_law_one", "_law_other"] 38 fn_law_plus) (D_law_times : Def3 P w K mg base "_law_times" ["_law_one", "_law_other"] 38 fn_law_times) {f : Addr} {fd : FuncData} (Fd : FunD K (df_law_at).name (df_law_at).qual (df_law_at).params (df_law_at).body (df_law_at).scope ((df_law_at).dvs K) ((df_law_at).kws K) f fd) (hm : mg (df_law_at).name = some (.ref f)) :
    DefAt P w K mg base "_law_at" ["_law_poly", "_law_x"] 39 fn_law_at f fd := by
  have nd : (["_law_poly", "_law_x", "_law_found", "_law_one"] : List Str).Nodup := sc_law_at.nd
  refine def3 (d := df_law_at) (k := 38) (m := 2) (n := 4) (t := d_law_at) Fd rfl hm sc_law_at rfl rfl (fun _ _ _ _ _ _ us hl => match us, hl with | [_, _], _ => rfl) (fun cdv A outer s H Ex W hr tk hp => ?_)
  have sr : Sr (cx3 P w K mg base ["_law_poly", "_law_x", "_law_found", "_law_one"] (df_law_at).qual (df_law_at).scope f cdv A outer s H Ex) := ⟨SR, TR, _, _, rfl, rfl, rfl, rfl, rfl⟩
  have hu := hr.units
  have hu1 : (cx3 P w K mg base ["_law_poly", "_law_x", "_law_found", "_law_one"] (df_law_at).qual (df_law_at).scope f cdv A outer s H Ex).A.units + 65 < cLine := by have := hr.un; omega
  exact (ss3_cons (s3_set 2 (e3_tup (a3_cons e3_int (a3_cons e3_int a3_nil))) nd)
    (ss3_cons (s3_for hp rfl (i3_rev F.reversed (e3_var 0)) (g3_name 3 nd) (ss3_one (s3_set 2 (e3_callD D_law_plus hr tk (a3_cons (e3_callD D_law_times hr tk (a3_cons (e3_var 2) (a3_cons (e3_var 1) a3_nil))) (a3_cons (e3_var 3) a3_nil))) nd)))
    (ss3_one (s3_ret (e3_var 2)))))
theorem sc_law_errors : FnScope ["_law_reference_here", "_law_poly", "_law_x", "_law_y", "_law_w"] ["_law_reference_here", "_law_poly"] (df_law_errors).scope := ⟨rfl, rfl, rfl, by decide +kernel, rfl, by decide +kernel, by decide +kernel⟩
theorem w_law_errors (F : Free mg) (SR : base.NoSeer) (TR : P.given.tree = none) (D_law_less : Def3 P w K mg base "_law_less" ["_law_one", "_law_other"] 38 fn_law_less) (D_law_times : Def3 P w K mg base "_law_times" ["_law_one", "_law_other"] 38 fn_law_times) (D_law_at : Def3 P w K mg base "_law_at" ["_law_poly", "_law_x"] 39 fn_law_at) {f : Addr} {fd : FuncData} (Fd : FunD K (df_law_errors).name (df_law_errors).qual (df_law_errors).params (df_law_errors).body (df_law_errors).scope ((df_law_errors).dvs K) ((df_law_errors).kws K) f fd) (hm : mg (df_law_errors).name = some (.ref f)) :
    DefAt P w K mg base "_law_errors" ["_law_reference_here", "_law_poly"] 40 fn_law_errors f fd := by
  have nd : (["_law_reference_here", "_law_poly", "_law_x", "_law_y", "_law_w"] : List Str).Nodup := sc_law_errors.nd
  refine def3 (d := df_law_errors) (k := 39) (m := 2) (n := 5) (t := d_law_errors) Fd rfl hm sc_law_errors rfl rfl (fun _ _ _ _ _ _ us hl => match us, hl with | [_, _], _ => rfl) (fun cdv A outer s H Ex W hr tk hp => ?_)
  have sr : Sr (cx3 P w K mg base ["_law_reference_here", "_law_poly", "_law_x", "_law_y", "_law_w"] (df_law_errors).qual (df_law_errors).scope f cdv A outer s H Ex) := ⟨SR, TR, _, _, rfl, rfl, rfl, rfl, rfl⟩
  have hu := hr.units
  have hu1 : (cx3 P w K mg base ["_law_reference_here", "_law_poly", "_law_x", "_law_y", "_law_w"] (df_law_errors).qual (df_law_errors).scope f cdv A outer s H Ex).A.units + 65 < cLine := by have := hr.un; omega
  exact (ss3_one (s3_ret (e3_lc (own := [("_law_x", 2), ("_law_y", 3), ("_law_w", 4)]) rfl nd (i3_lt (e3_var 0)) (by kernel_rfl) (fun _ _ _ _ _ => (g3_tup rfl (gs3_cons (g3_name 2 nd) (gs3_cons (g3_name 3 nd) (gs3_cons (g3_name 4 nd) gs3_nil))))) (fun _ _ _ _ _ => ts3_nil) (fun _ _ _ _ _ => (e3_callD D_law_times hr takes0 (a3_cons (e3_var 4) (a3_cons (e3_callD D_law_less hr takes0 (a3_cons (e3_var 3) (a3_cons (e3_callD D_law_at hr takes0 (a3_cons (e3_var 1) (a3_cons (e3_var 2) a3_nil))) a3_nil))) a3_nil)))))))
theorem sc_law_unsigned : FnScope ["_law_one"] ["_law_one"] (df_law_unsigned).scope := ⟨rfl, rfl, rfl, by decide +kernel, rfl, by decide +kernel, by decide +kernel⟩
theorem w_law_unsigned (F : Free mg) (SR : base.NoSeer) (TR : P.given.tree = none) {f : Addr} {fd : FuncData} (Fd : FunD K (df_law_unsigned).name (df_law_unsigned).qual (df_law_unsigned).params (df_law_unsigned).body (df_law_unsigned).scope ((df_law_unsigned).dvs K) ((df_law_unsigned).kws K) f fd) (hm : mg (df_law_unsigned).name = some (.ref f)) :
    DefAt P w K mg base "_law_unsigned" ["_law_one"] 37 fn_law_unsigned f fd := by
  have nd : (["_law_one"] : List Str).Nodup := sc_law_unsigned.nd
  refine def3 (d := df_law_unsigned) (k := 36) (m := 1) (n := 1) (t := d_law_unsigned) Fd rfl hm sc_law_unsigned rfl rfl (fun _ _ _ _ _ _ us hl => match us, hl with | [_], _ => rfl) (fun cdv A outer s H Ex W hr tk hp => ?_)
  have sr : Sr (cx3 P w K mg base ["_law_one"] (df_law_unsigned).qual (df_law_unsigned).scope f cdv A outer s H Ex) := ⟨SR, TR, _, _, rfl, rfl, rfl, rfl, rfl⟩
  have hu := hr.units
  have hu1 : (cx3 P w K mg base ["_law_one"] (df_law_unsigned).qual (df_law_unsigned).scope f cdv A outer s H Ex).A.units + 65 < cLine := by have := hr.un; omega
  exact (ss3_one (s3_ret (e3_tup (a3_cons (e3_blt call_abs ok_abs F.abs (a3_cons (e3_ix ix_seq ok_ix (e3_var 0) e3_int) a3_nil)) (a3_cons (e3_ix ix_seq ok_ix (e3_var 0) e3_int) a3_nil)))))
theorem sc_law_is_poly : FnScope ["_law_thing", "_law_most", "_law_one"] ["_law_thing", "_law_most"] (df_law_is_poly).scope := ⟨rfl, rfl, rfl, by decide +kernel, rfl, by decide +kernel, by decide +kernel⟩
theorem w_law_is_poly (F : Free mg) (SR : base.NoSeer) (TR : P.given.tree = none) (D_law_is_fraction : Def3 P w K mg base "_law_is_fraction" ["_law_thing"] 38 fn_law_is_fraction) {f : Addr} {fd : FuncData} (Fd : FunD K (df_law_is_poly).name (df_law_is_poly).qual (df_law_is_poly).params (df_law_is_poly).body (df_law_is_poly).scope ((df_law_is_poly).dvs K) ((df_law_is_poly).kws K) f fd) (hm : mg (df_law_is_poly).name = some (.ref f)) :
    DefAt P w K mg base "_law_is_poly" ["_law_thing", "_law_most"] 39 fn_law_is_poly f fd := by
  have nd : (["_law_thing", "_law_most", "_law_one"] : List Str).Nodup := sc_law_is_poly.nd
  refine def3 (d := df_law_is_poly) (k := 38) (m := 2) (n := 3) (t := d_law_is_poly) Fd rfl hm sc_law_is_poly rfl rfl (fun _ _ _ _ _ _ us hl => match us, hl with | [_, _], _ => rfl) (fun cdv A outer s H Ex W hr tk hp => ?_)
  have sr : Sr (cx3 P w K mg base ["_law_thing", "_law_most", "_law_one"] (df_law_is_poly).qual (df_law_is_poly).scope f cdv A outer s H Ex) := ⟨SR, TR, _, _, rfl, rfl, rfl, rfl, rfl⟩
  have hu := hr.units
  have hu1 : (cx3 P w K mg base ["_law_thing", "_law_most", "_law_one"] (df_law_is_poly).qual (df_law_is_poly).scope f cdv A outer s H Ex).A.units + 65 < cLine := by have := hr.un; omega
  exact (ss3_cons (s3_if (t3_w (w3_or (t3_not (t3_val (e3_blt call_isi ok_isi F.isinstance (a3_cons (e3_var 0) (a3_cons (e3_ty F.tuple) a3_nil))))) (w3_or1 (t3_cmp op_gt ok_gt (e3_blt call_len_seq ok_len F.len (a3_cons (e3_var 0) a3_nil)) (e3_var 1))))) (ss3_one (s3_ret e3_bl)) ss3_nil)
    (ss3_one (s3_ret (e3_and (e3_blt (cr_all rfl) ok_all F.all (a3_cons (e3_lc (own := [("_law_one", 2)]) rfl nd (i3_lt (e3_var 0)) (by kernel_rfl) (fun _ _ _ _ _ => (g3_name 2 nd)) (fun _ _ _ _ _ => ts3_nil) (fun _ _ _ _ _ => (e3_callD D_law_is_fraction hr takes0 (a3_cons (e3_var 2) a3_nil)))) a3_nil)) (e3_one (e3_or (e3_cmp (op_eqD hu) ok_eq (e3_var 0) (e3_tup a3_nil)) (e3_one (e3_cmp (op_neD hu) ok_ne (e3_ix ix_seq ok_ix (e3_ix ix_seq ok_ix (e3_var 0) (e3_un un_neg ok_neg e3_int)) e3_int) e3_int))))))))
theorem sc_law_reference : FnScope ["_law_pot_here", "_law_many", "_law_x"] ["_law_pot_here", "_law_many"] (df_law_reference).scope := ⟨rfl, rfl, rfl, by decide +kernel, rfl, by decide +kernel, by decide +kernel⟩
theorem w_law_reference (F : Free mg) (SR : base.NoSeer) (TR : P.given.tree = none) (D_law_numbers : Def3 P w K mg base "_law_numbers" ["_law_pot_here", "_law_many"] 38 fn_law_numbers) (D_law_value : Def3 P w K mg base "_law_value" ["_law_pot_here"] 38 fn_law_value) (D_law_weight : Def3 P w K mg base "_law_weight" ["_law_pot_here"] 38 fn_law_weight) {f : Addr} {fd : FuncData} (Fd : FunD K (df_law_reference).name (df_law_reference).qual (df_law_reference).params (df_law_reference).body (df_law_reference).scope ((df_law_reference).dvs K) ((df_law_reference).kws K) f fd) (hm : mg (df_law_reference).name = some (.ref f)) :
    DefAt P w K mg base "_law_reference" ["_law_pot_here", "_law_many"] 39 fn_law_reference f fd := by
  have nd : (["_law_pot_here", "_law_many", "_law_x"] : List Str).Nodup := sc_law_reference.nd
  refine def3 (d := df_law_reference) (k := 38) (m := 2) (n := 3) (t := d_law_reference) Fd rfl hm sc_law_reference rfl rfl (fun _ _ _ _ _ _ us hl => match us, hl with | [_, _], _ => rfl) (fun cdv A outer s H Ex W hr tk hp => ?_)
  have sr : Sr (cx3 P w K mg base ["_law_pot_here", "_law_many", "_law_x"] (df_law_reference).qual (df_law_reference).scope f cdv A outer s H Ex) := ⟨SR, TR, _, _, rfl, rfl, rfl, rfl, rfl⟩
  have hu := hr.units
  have hu1 : (cx3 P w K mg base ["_law_pot_here", "_law_many", "_law_x"] (df_law_reference).qual (df_law_reference).scope f cdv A outer s H Ex).A.units + 65 < cLine := by have := hr.un; omega
  exact (ss3_one (s3_ret (e3_lc (own := [("_law_x", 2)]) rfl nd (i3_lt (e3_callD D_law_numbers hr tk (a3_cons (e3_var 0) (a3_cons (e3_var 1) a3_nil)))) (by kernel_rfl) (fun _ _ _ _ _ => (g3_name 2 nd)) (fun _ _ _ _ _ => ts3_nil) (fun _ _ _ _ _ => (e3_tup (a3_cons (e3_var 2) (a3_cons (e3_callD D_law_value hr takes0 (a3_cons (e3_var 0) a3_nil)) (a3_cons (e3_callD D_law_weight hr takes0 (a3_cons (e3_var 0) a3_nil)) a3_nil))))))))
theorem sc_law_right : FnScope ["_law_reference_here", "_law_found", "_law_h", "_law_due", "_law_k"] ["_law_reference_here", "_law_found"] (df_law_right).scope := ⟨rfl, rfl, rfl, by decide +kernel, rfl, by decide +kernel, by decide +kernel⟩
theorem w_law_right (F : Free mg) (SR : base.NoSeer) (TR : P.given.tree = none) (D_law_is_fraction : Def3 P w K mg base "_law_is_fraction" ["_law_thing"] 38 fn_law_is_fraction) (D_law_errors : Def3 P w K mg base "_law_errors" ["_law_reference_here", "_law_poly"] 40 fn_law_errors) (D_law_is_poly : Def3 P w K mg base "_law_is_poly" ["_law_thing", "_law_most"] 39 fn_law_is_poly) {f : Addr} {fd : FuncData} (Fd : FunD K (df_law_right).name (df_law_right).qual (df_law_right).params (df_law_right).body (df_law_right).scope ((df_law_right).dvs K) ((df_law_right).kws K) f fd) (hm : mg (df_law_right).name = some (.ref f)) :
    DefAt P w K mg base "_law_right" ["_law_reference_here", "_law_found"] 41 fn_law_right f fd := by
  have nd : (["_law_reference_here", "_law_found", "_law_h", "_law_due", "_law_k"] : List Str).Nodup := sc_law_right.nd
  refine def3 (d := df_law_right) (k := 40) (m := 2) (n := 5) (t := d_law_right) Fd rfl hm sc_law_right rfl rfl (fun _ _ _ _ _ _ us hl => match us, hl with | [_, _], _ => rfl) (fun cdv A outer s H Ex W hr tk hp => ?_)
  have sr : Sr (cx3 P w K mg base ["_law_reference_here", "_law_found", "_law_h", "_law_due", "_law_k"] (df_law_right).qual (df_law_right).scope f cdv A outer s H Ex) := ⟨SR, TR, _, _, rfl, rfl, rfl, rfl, rfl⟩
  have hu := hr.units
  have hu1 : (cx3 P w K mg base ["_law_reference_here", "_law_found", "_law_h", "_law_due", "_law_k"] (df_law_right).qual (df_law_right).scope f cdv A outer s H Ex).A.units + 65 < cLine := by have := hr.un; omega
  exact (ss3_cons (s3_if (t3_w (w3_or (t3_not (t3_val (e3_blt call_isi ok_isi F.isinstance (a3_cons (e3_var 1) (a3_cons (e3_ty F.tuple) a3_nil))))) (w3_or (t3_cmp (op_neD hu) ok_ne (e3_blt call_len_seq ok_len F.len (a3_cons (e3_var 1) a3_nil)) e3_int) (w3_or1 (t3_not (t3_val (e3_callD D_law_is_fraction hr tk (a3_cons (e3_ix ix_seq ok_ix (e3_var 1) e3_int) a3_nil)))))))) (ss3_one (s3_ret e3_bl)) ss3_nil)
    (ss3_cons (s3_if (t3_not (t3_val (e3_callD D_law_is_poly hr tk (a3_cons (e3_ix ix_seq ok_ix (e3_var 1) e3_int) (a3_cons (e3_op op_sub ok_sub (e3_blt call_len_seq ok_len F.len (a3_cons (e3_var 0) a3_nil)) e3_int) a3_nil))))) (ss3_one (s3_ret e3_bl)) ss3_nil)
    (ss3_cons (s3_set 2 (e3_ix ix_seq ok_ix (e3_var 1) e3_int) nd)
    (ss3_cons (s3_setLc 3 (own := [("_law_k", 4)]) rfl nd (i3_range1 F.range (a3_cons (e3_blt call_len_seq ok_len F.len (a3_cons (e3_var 0) a3_nil)) a3_nil)) (by kernel_rfl) (fun _ _ _ _ _ => (g3_name 4 nd)) (fun _ _ _ _ _ => ts3_nil) (fun _ _ _ _ _ => (e3_ix ix_seq ok_ix (e3_lst (a3_cons (e3_var 2) (a3_cons (e3_tup (a3_cons (e3_un un_neg ok_neg (e3_ix ix_seq ok_ix (e3_var 2) e3_int)) (a3_cons (e3_ix ix_seq ok_ix (e3_var 2) e3_int) a3_nil))) a3_nil))) (e3_op op_modN ok_mod (e3_var 4) e3_int))))
    (ss3_one (s3_ret (e3_cmp (op_eqD hu) ok_eq (e3_callD D_law_errors hr tk (a3_cons (e3_var 0) (a3_cons (e3_ix ix_seq ok_ix (e3_var 1) e3_int) a3_nil))) (e3_var 3))))))))
theorem sc_law : FnScope ["_law_script", "_law_k", "_law_pot_here", "_law_reference_here", "_law_handed", "_law_found"] ["_law_script"] (df_law).scope := ⟨rfl, rfl, rfl, by decide +kernel, rfl, by decide +kernel, by decide +kernel⟩
theorem w_law (F : Free mg) (SR : base.NoSeer) (TR : P.given.tree = none) (D_level : Def3 P w K mg base "level" ["reference"] 44 fn_level) (D_bound : Def3 P w K mg base "bound" ["reference"] 44 fn_bound) (D_law_pot : Def3 P w K mg base "_law_pot" ["_law_script", "_law_k"] 37 fn_law_pot) (D_law_draw : Def3 P w K mg base "_law_draw" ["_law_pot_here", "_law_many"] 37 fn_law_draw) (D_law_unsigned : Def3 P w K mg base "_law_unsigned" ["_law_one"] 37 fn_law_unsigned) (D_law_reference : Def3 P w K mg base "_law_reference" ["_law_pot_here", "_law_many"] 39 fn_law_reference) (D_law_right : Def3 P w K mg base "_law_right" ["_law_reference_here", "_law_found"] 41 fn_law_right) {f : Addr} {fd : FuncData} (Fd : FunD K (df_law).name (df_law).qual (df_law).params (df_law).body (df_law).scope ((df_law).dvs K) ((df_law).kws K) f fd) (hm : mg (df_law).name = some (.ref f)) :
    DefAt P w K mg base "law" ["_law_script"] 45 fn_law f fd := by
  have nd : (["_law_script", "_law_k", "_law_pot_here", "_law_reference_here", "_law_handed", "_law_found"] : List Str).Nodup := sc_law.nd
  refine def3 (d := df_law) (k := 44) (m := 1) (n := 6) (t := d_law) Fd rfl hm sc_law rfl rfl (fun _ _ _ _ _ _ us hl => match us, hl with | [_], _ => rfl) (fun cdv A outer s H Ex W hr tk hp => ?_)
  have sr : Sr (cx3 P w K mg base ["_law_script", "_law_k", "_law_pot_here", "_law_reference_here", "_law_handed", "_law_found"] (df_law).qual (df_law).scope f cdv A outer s H Ex) := ⟨SR, TR, _, _, rfl, rfl, rfl, rfl, rfl⟩
  have hu := hr.units
  have hu1 : (cx3 P w K mg base ["_law_script", "_law_k", "_law_pot_here", "_law_reference_here", "_law_handed", "_law_found"] (df_law).qual (df_law).scope f cdv A outer s H Ex).A.units + 65 < cLine := by have := hr.un; omega
  exact (ss3_cons (s3_for hp rfl (i3_range1 F.range (a3_cons (e3_blt (call_max2 rfl) ok_max2 F.max (a3_cons e3_int (a3_cons (e3_blt (call_min2 rfl) ok_min2 F.min (a3_cons (e3_blt call_len_seq ok_len F.len (a3_cons (e3_var 0) a3_nil)) (a3_cons e3_int a3_nil))) a3_nil))) a3_nil)) (g3_name 1 nd) (ss3_cons (s3_set 2 (e3_callD D_law_pot hr tk (a3_cons (e3_var 0) (a3_cons (e3_var 1) a3_nil))) nd)
    (ss3_cons (s3_set 3 (e3_callD D_law_reference hr tk (a3_cons (e3_var 2) (a3_cons (e3_op op_add3 ok_add e3_int (e3_callD D_law_draw hr tk (a3_cons (e3_var 2) (a3_cons e3_int a3_nil)))) a3_nil))) nd)
    (ss3_cons (s3_set 4 (e3_bty call_list_of ok_list F.list (a3_cons (e3_var 3) a3_nil)) nd)
    (ss3_cons (s3_set 5 (e3_callD D_level hr tk (a3_cons (e3_var 4) a3_nil)) nd)
    (ss3_cons (s3_if (t3_w (w3_or (t3_cmp (op_neD hu) ok_ne (e3_var 4) (e3_var 3)) (w3_or1 (t3_not (t3_val (e3_callD D_law_right hr tk (a3_cons (e3_var 3) (a3_cons (e3_var 5) a3_nil)))))))) (ss3_one (s3_ret e3_bl)) ss3_nil)
    (ss3_cons (s3_if (t3_w (w3_or (t3_cmp (op_neD hu) ok_ne (e3_callD D_bound hr tk (a3_cons (e3_var 4) a3_nil)) (e3_callD D_law_unsigned hr tk (a3_cons (e3_ix ix_seq ok_ix (e3_var 5) e3_int) a3_nil))) (w3_or (t3_cmp (op_neD hu) ok_ne (e3_var 4) (e3_var 3)) (w3_or1 (t3_cmp (op_neD hu) ok_ne (e3_callD D_level hr tk (a3_cons (e3_var 3) a3_nil)) (e3_var 5)))))) (ss3_one (s3_ret e3_bl)) ss3_nil)
    (ss3_cons (s3_expr (e3_mt0 PySem.F.plainAttrs_list PySem.F.slot_list_reverse PySem.F.type_list_reverse mt_reverse ok_reverse (e3_var 4)))
    (ss3_cons (s3_expr (e3_mt0 PySem.F.plainAttrs_list PySem.F.slot_list_pop PySem.F.type_list_pop mt_pop ok_pop (e3_var 4)))
    (ss3_one (s3_if (t3_w (w3_or (t3_cmp (op_neD hu) ok_ne (e3_callD D_level hr tk (a3_cons (e3_var 3) a3_nil)) (e3_var 5)) (w3_or1 (t3_cmp (op_neD hu) ok_ne (e3_callD D_bound hr tk (a3_cons (e3_var 3) a3_nil)) (e3_callD D_law_unsigned hr tk (a3_cons (e3_ix ix_seq ok_ix (e3_var 5) e3_int) a3_nil)))))) (ss3_one (s3_ret e3_bl)) ss3_nil)))))))))))
    (ss3_one (s3_ret e3_bl)))
end
theorem factsD {P : Program} {w : World} {K : PySem.W.Frag} {h : Heap} {mg : Str → Option Value} {f : Addr} (X : K.In h) (G : h.Ns mainGlobals mg) (hfa : mg ("law" : Str) = some (.ref f)) (c : He.SaysD fasD fnsD K) (cx : exD K = true) (TR : P.given.tree = none) :
    ∃ fd : FuncData, (∀ (s : Shared) (v : Value), BindsTo s fd ⟨[v], []⟩ [("_law_script", v)]) ∧ ∀ base : Heap, K.In base → base.Ns mainGlobals mg → base.NoSeer → FnOk P w K mg base (L2.CX P w) 45 f fd ["_law_script"] (emb K fn_law) := by
  have F : Free mg := free_of X G c (fun f hf => List.mem_append_right _ hf)
  obtain ⟨fd_divisor, Fd_divisor⟩ := c.def_ 0 (d := df_divisor) rfl
  have g_divisor : mg "divisor" = some (.ref (He.fAd K ("divisor", none))) := He.glo_ok X G (c.fact 0 (f := .glo "divisor") rfl)
  obtain ⟨fd_fraction, Fd_fraction⟩ := c.def_ 1 (d := df_fraction) rfl
  have g_fraction : mg "fraction" = some (.ref (He.fAd K ("fraction", none))) := He.glo_ok X G (c.fact 1 (f := .glo "fraction") rfl)
  obtain ⟨fd_plus, Fd_plus⟩ := c.def_ 2 (d := df_plus) rfl
  have g_plus : mg "plus" = some (.ref (He.fAd K ("plus", none))) := He.glo_ok X G (c.fact 2 (f := .glo "plus") rfl)
  obtain ⟨fd_less, Fd_less⟩ := c.def_ 3 (d := df_less) rfl
  have g_less : mg "less" = some (.ref (He.fAd K ("less", none))) := He.glo_ok X G (c.fact 3 (f := .glo "less") rfl)
  obtain ⟨fd_times, Fd_times⟩ := c.def_ 4 (d := df_times) rfl
  have g_times : mg "times" = some (.ref (He.fAd K ("times", none))) := He.glo_ok X G (c.fact 4 (f := .glo "times") rfl)
  obtain ⟨fd_over, Fd_over⟩ := c.def_ 5 (d := df_over) rfl
  have g_over : mg "over" = some (.ref (He.fAd K ("over", none))) := He.glo_ok X G (c.fact 5 (f := .glo "over") rfl)
  obtain ⟨fd_turned, Fd_turned⟩ := c.def_ 6 (d := df_turned) rfl
  have g_turned : mg "turned" = some (.ref (He.fAd K ("turned", none))) := He.glo_ok X G (c.fact 6 (f := .glo "turned") rfl)
  obtain ⟨fd_lever, Fd_lever⟩ := c.def_ 7 (d := df_lever) rfl
  have g_lever : mg "lever" = some (.ref (He.fAd K ("lever", none))) := He.glo_ok X G (c.fact 7 (f := .glo "lever") rfl)
  obtain ⟨fd_levers, Fd_levers⟩ := c.def_ 8 (d := df_levers) rfl
  have g_levers : mg "levers" = some (.ref (He.fAd K ("levers", none))) := He.glo_ok X G (c.fact 8 (f := .glo "levers") rfl)
  obtain ⟨fd_weighed, Fd_weighed⟩ := c.def_ 9 (d := df_weighed) rfl
  have g_weighed : mg "weighed" = some (.ref (He.fAd K ("weighed", none))) := He.glo_ok X G (c.fact 9 (f := .glo "weighed") rfl)
  obtain ⟨fd_lean, Fd_lean⟩ := c.def_ 10 (d := df_lean) rfl
  have g_lean : mg "lean" = some (.ref (He.fAd K ("lean", none))) := He.glo_ok X G (c.fact 10 (f := .glo "lean") rfl)
  obtain ⟨fd_worth, Fd_worth⟩ := c.def_ 11 (d := df_worth) rfl
  have g_worth : mg "worth" = some (.ref (He.fAd K ("worth", none))) := He.glo_ok X G (c.fact 11 (f := .glo "worth") rfl)
  obtain ⟨fd_part_at, Fd_part_at⟩ := c.def_ 12 (d := df_part_at) rfl
  have g_part_at : mg "part_at" = some (.ref (He.fAd K ("part_at", none))) := He.glo_ok X G (c.fact 12 (f := .glo "part_at") rfl)
  obtain ⟨fd_sum_of, Fd_sum_of⟩ := c.def_ 13 (d := df_sum_of) rfl
  have g_sum_of : mg "sum_of" = some (.ref (He.fAd K ("sum_of", none))) := He.glo_ok X G (c.fact 13 (f := .glo "sum_of") rfl)
  obtain ⟨fd_times_all, Fd_times_all⟩ := c.def_ 14 (d := df_times_all) rfl
  have g_times_all : mg "times_all" = some (.ref (He.fAd K ("times_all", none))) := He.glo_ok X G (c.fact 14 (f := .glo "times_all") rfl)
  obtain ⟨fd_product, Fd_product⟩ := c.def_ 15 (d := df_product) rfl
  have g_product : mg "product" = some (.ref (He.fAd K ("product", none))) := He.glo_ok X G (c.fact 15 (f := .glo "product") rfl)
  obtain ⟨fd_without_root, Fd_without_root⟩ := c.def_ 16 (d := df_without_root) rfl
  have g_without_root : mg "without_root" = some (.ref (He.fAd K ("without_root", none))) := He.glo_ok X G (c.fact 16 (f := .glo "without_root") rfl)
  obtain ⟨fd_through, Fd_through⟩ := c.def_ 17 (d := df_through) rfl
  have g_through : mg "through" = some (.ref (He.fAd K ("through", none))) := He.glo_ok X G (c.fact 17 (f := .glo "through") rfl)
  obtain ⟨fd_unsigned, Fd_unsigned⟩ := c.def_ 18 (d := df_unsigned) rfl
  have g_unsigned : mg "unsigned" = some (.ref (He.fAd K ("unsigned", none))) := He.glo_ok X G (c.fact 18 (f := .glo "unsigned") rfl)
  obtain ⟨fd_opposite, Fd_opposite⟩ := c.def_ 19 (d := df_opposite) rfl
  have g_opposite : mg "opposite" = some (.ref (He.fAd K ("opposite", none))) := He.glo_ok X G (c.fact 19 (f := .glo "opposite") rfl)
  obtain ⟨fd_room_of, Fd_room_of⟩ := c.def_ 20 (d := df_room_of) rfl
  have g_room_of : mg "room_of" = some (.ref (He.fAd K ("room_of", none))) := He.glo_ok X G (c.fact 20 (f := .glo "room_of") rfl)
  obtain ⟨fd_first_error, Fd_first_error⟩ := c.def_ 21 (d := df_first_error) rfl
  have g_first_error : mg "first_error" = some (.ref (He.fAd K ("first_error", none))) := He.glo_ok X G (c.fact 21 (f := .glo "first_error") rfl)
  obtain ⟨fd_level, Fd_level⟩ := c.def_ 22 (d := df_level) rfl
  have g_level : mg "level" = some (.ref (He.fAd K ("level", none))) := He.glo_ok X G (c.fact 22 (f := .glo "level") rfl)
  obtain ⟨fd_bound, Fd_bound⟩ := c.def_ 23 (d := df_bound) rfl
  have g_bound : mg "bound" = some (.ref (He.fAd K ("bound", none))) := He.glo_ok X G (c.fact 23 (f := .glo "bound") rfl)
  obtain ⟨fd_law_pot, Fd_law_pot⟩ := c.def_ 24 (d := df_law_pot) rfl
  have g_law_pot : mg "_law_pot" = some (.ref (He.fAd K ("_law_pot", none))) := He.glo_ok X G (c.fact 24 (f := .glo "_law_pot") rfl)
  obtain ⟨fd_law_draw, Fd_law_draw⟩ := c.def_ 25 (d := df_law_draw) rfl
  have g_law_draw : mg "_law_draw" = some (.ref (He.fAd K ("_law_draw", none))) := He.glo_ok X G (c.fact 25 (f := .glo "_law_draw") rfl)
  obtain ⟨fd_law_fraction, Fd_law_fraction⟩ := c.def_ 26 (d := df_law_fraction) rfl
  have g_law_fraction : mg "_law_fraction" = some (.ref (He.fAd K ("_law_fraction", none))) := He.glo_ok X G (c.fact 26 (f := .glo "_law_fraction") rfl)
  obtain ⟨fd_law_plus, Fd_law_plus⟩ := c.def_ 27 (d := df_law_plus) rfl
  have g_law_plus : mg "_law_plus" = some (.ref (He.fAd K ("_law_plus", none))) := He.glo_ok X G (c.fact 27 (f := .glo "_law_plus") rfl)
  obtain ⟨fd_law_less, Fd_law_less⟩ := c.def_ 28 (d := df_law_less) rfl
  have g_law_less : mg "_law_less" = some (.ref (He.fAd K ("_law_less", none))) := He.glo_ok X G (c.fact 28 (f := .glo "_law_less") rfl)
  obtain ⟨fd_law_times, Fd_law_times⟩ := c.def_ 29 (d := df_law_times) rfl
  have g_law_times : mg "_law_times" = some (.ref (He.fAd K ("_law_times", none))) := He.glo_ok X G (c.fact 29 (f := .glo "_law_times") rfl)
  obtain ⟨fd_law_by, Fd_law_by⟩ := c.def_ 30 (d := df_law_by) rfl
  have g_law_by : mg "_law_by" = some (.ref (He.fAd K ("_law_by", none))) := He.glo_ok X G (c.fact 30 (f := .glo "_law_by") rfl)
  obtain ⟨fd_law_is_fraction, Fd_law_is_fraction⟩ := c.def_ 31 (d := df_law_is_fraction) rfl
  have g_law_is_fraction : mg "_law_is_fraction" = some (.ref (He.fAd K ("_law_is_fraction", none))) := He.glo_ok X G (c.fact 31 (f := .glo "_law_is_fraction") rfl)
  obtain ⟨fd_law_numbers, Fd_law_numbers⟩ := c.def_ 32 (d := df_law_numbers) rfl
  have g_law_numbers : mg "_law_numbers" = some (.ref (He.fAd K ("_law_numbers", none))) := He.glo_ok X G (c.fact 32 (f := .glo "_law_numbers") rfl)
  obtain ⟨fd_law_value, Fd_law_value⟩ := c.def_ 33 (d := df_law_value) rfl
  have g_law_value : mg "_law_value" = some (.ref (He.fAd K ("_law_value", none))) := He.glo_ok X G (c.fact 33 (f := .glo "_law_value") rfl)
  obtain ⟨fd_law_weight, Fd_law_weight⟩ := c.def_ 34 (d := df_law_weight) rfl
  have g_law_weight : mg "_law_weight" = some (.ref (He.fAd K ("_law_weight", none))) := He.glo_ok X G (c.fact 34 (f := .glo "_law_weight") rfl)
  obtain ⟨fd_law_at, Fd_law_at⟩ := c.def_ 35 (d := df_law_at) rfl
  have g_law_at : mg "_law_at" = some (.ref (He.fAd K ("_law_at", none))) := He.glo_ok X G (c.fact 35 (f := .glo "_law_at") rfl)
  obtain ⟨fd_law_errors, Fd_law_errors⟩ := c.def_ 36 (d := df_law_errors) rfl
  have g_law_errors : mg "_law_errors" = some (.ref (He.fAd K ("_law_errors", none))) := He.glo_ok X G (c.fact 36 (f := .glo "_law_errors") rfl)
  obtain ⟨fd_law_unsigned, Fd_law_unsigned⟩ := c.def_ 37 (d := df_law_unsigned) rfl
  have g_law_unsigned : mg "_law_unsigned" = some (.ref (He.fAd K ("_law_unsigned", none))) := He.glo_ok X G (c.fact 37 (f := .glo "_law_unsigned") rfl)
  obtain ⟨fd_law_is_poly, Fd_law_is_poly⟩ := c.def_ 38 (d := df_law_is_poly) rfl
  have g_law_is_poly : mg "_law_is_poly" = some (.ref (He.fAd K ("_law_is_poly", none))) := He.glo_ok X G (c.fact 38 (f := .glo "_law_is_poly") rfl)
  obtain ⟨fd_law_reference, Fd_law_reference⟩ := c.def_ 39 (d := df_law_reference) rfl
  have g_law_reference : mg "_law_reference" = some (.ref (He.fAd K ("_law_reference", none))) := He.glo_ok X G (c.fact 39 (f := .glo "_law_reference") rfl)
  obtain ⟨fd_law_right, Fd_law_right⟩ := c.def_ 40 (d := df_law_right) rfl
  have g_law_right : mg "_law_right" = some (.ref (He.fAd K ("_law_right", none))) := He.glo_ok X G (c.fact 40 (f := .glo "_law_right") rfl)
  obtain ⟨fd_law, Fd_law⟩ := c.def_ 41 (d := df_law) rfl
  have g_law : mg "law" = some (.ref (He.fAd K ("law", none))) := He.glo_ok X G (c.fact 41 (f := .glo "law") rfl)
  have C_NOUGHT_fractions : Cst K mg "NOUGHT_fractions" k_NOUGHT_fractions := cst_tup (He.glo_ok X G (c.fact 42 (f := .glo "NOUGHT_fractions") rfl)) (ex_NOUGHT_fractions cx) rfl
  have C_NOUGHT_levers : Cst K mg "NOUGHT_levers" k_NOUGHT_levers := cst_tup (He.glo_ok X G (c.fact 43 (f := .glo "NOUGHT_levers") rfl)) (ex_NOUGHT_levers cx) rfl
  have C_ONE_fractions : Cst K mg "ONE_fractions" k_ONE_fractions := cst_tup (He.glo_ok X G (c.fact 44 (f := .glo "ONE_fractions") rfl)) (ex_ONE_fractions cx) rfl
  have C_ONE_levers : Cst K mg "ONE_levers" k_ONE_levers := cst_tup (He.glo_ok X G (c.fact 45 (f := .glo "ONE_levers") rfl)) (ex_ONE_levers cx) rfl
  have E_Twice : Err K mg "Twice" := err_of (He.glo_ok X G (c.fact 46 (f := .glo "Twice") rfl)) (c.fact 47 (f := .exc "Twice") rfl)
  cases hfa.symm.trans g_law
  have b := FunD.bindsA (ps := ["_law_script"]) Fd_law fun _ _ _ _ _ _ us hl => match us, hl with | [_], _ => rfl
  refine ⟨fd_law, fun s v => b s [v] rfl, fun base _ _ SR => ?_⟩
  have D_divisor : Def3 P w K mg base "divisor" _ _ fn_divisor := ⟨_, _, w_divisor (P := P) (w := w) (base := base) F SR TR Fd_divisor g_divisor⟩
  have D_fraction : Def3 P w K mg base "fraction" _ _ fn_fraction := ⟨_, _, w_fraction (P := P) (w := w) (base := base) F SR TR D_divisor Fd_fraction g_fraction⟩
  have D_plus : Def3 P w K mg base "plus" _ _ fn_plus := ⟨_, _, w_plus (P := P) (w := w) (base := base) F SR TR D_fraction Fd_plus g_plus⟩
  have D_less : Def3 P w K mg base "less" _ _ fn_less := ⟨_, _, w_less (P := P) (w := w) (base := base) F SR TR D_fraction Fd_less g_less⟩
  have D_times : Def3 P w K mg base "times" _ _ fn_times := ⟨_, _, w_times (P := P) (w := w) (base := base) F SR TR D_fraction Fd_times g_times⟩
  have D_over : Def3 P w K mg base "over" _ _ fn_over := ⟨_, _, w_over (P := P) (w := w) (base := base) F SR TR D_fraction Fd_over g_over⟩
  have D_turned : Def3 P w K mg base "turned" _ _ fn_turned := ⟨_, _, w_turned (P := P) (w := w) (base := base) F SR TR Fd_turned g_turned⟩
  have D_lever : Def3 P w K mg base "lever" _ _ fn_lever := ⟨_, _, w_lever (P := P) (w := w) (base := base) F SR TR C_ONE_levers D_less D_times D_over Fd_lever g_lever⟩
  have D_levers : Def3 P w K mg base "levers" _ _ fn_levers := ⟨_, _, w_levers (P := P) (w := w) (base := base) F SR TR D_lever Fd_levers g_levers⟩
  have D_weighed : Def3 P w K mg base "weighed" _ _ fn_weighed := ⟨_, _, w_weighed (P := P) (w := w) (base := base) F SR TR C_NOUGHT_levers D_plus D_times D_levers Fd_weighed g_weighed⟩
  have D_lean : Def3 P w K mg base "lean" _ _ fn_lean := ⟨_, _, w_lean (P := P) (w := w) (base := base) F SR TR C_NOUGHT_fractions Fd_lean g_lean⟩
  have D_worth : Def3 P w K mg base "worth" _ _ fn_worth := ⟨_, _, w_worth (P := P) (w := w) (base := base) F SR TR C_NOUGHT_fractions D_plus D_times Fd_worth g_worth⟩
  have D_part_at : Def3 P w K mg base "part_at" _ _ fn_part_at := ⟨_, _, w_part_at (P := P) (w := w) (base := base) F SR TR C_NOUGHT_fractions Fd_part_at g_part_at⟩
  have D_sum_of : Def3 P w K mg base "sum_of" _ _ fn_sum_of := ⟨_, _, w_sum_of (P := P) (w := w) (base := base) F SR TR D_plus D_lean D_part_at Fd_sum_of g_sum_of⟩
  have D_times_all : Def3 P w K mg base "times_all" _ _ fn_times_all := ⟨_, _, w_times_all (P := P) (w := w) (base := base) F SR TR D_times D_lean Fd_times_all g_times_all⟩
  have D_product : Def3 P w K mg base "product" _ _ fn_product := ⟨_, _, w_product (P := P) (w := w) (base := base) F SR TR C_NOUGHT_fractions D_plus D_times D_lean Fd_product g_product⟩
  have D_without_root : Def3 P w K mg base "without_root" _ _ fn_without_root := ⟨_, _, w_without_root (P := P) (w := w) (base := base) F SR TR C_ONE_fractions D_turned Fd_without_root g_without_root⟩
  have D_through : Def3 P w K mg base "through" _ _ fn_through := ⟨_, _, w_through (P := P) (w := w) (base := base) F SR TR C_NOUGHT_fractions C_ONE_fractions E_Twice D_less D_over D_worth D_sum_of D_times_all D_product D_without_root Fd_through g_through⟩
  have D_unsigned : Def3 P w K mg base "unsigned" _ _ fn_unsigned := ⟨_, _, w_unsigned (P := P) (w := w) (base := base) F SR TR Fd_unsigned g_unsigned⟩
  have D_opposite : Def3 P w K mg base "opposite" _ _ fn_opposite := ⟨_, _, w_opposite (P := P) (w := w) (base := base) F SR TR Fd_opposite g_opposite⟩
  have D_room_of : Def3 P w K mg base "room_of" _ _ fn_room_of := ⟨_, _, w_room_of (P := P) (w := w) (base := base) F SR TR C_NOUGHT_levers D_plus D_over D_levers D_unsigned Fd_room_of g_room_of⟩
  have D_first_error : Def3 P w K mg base "first_error" _ _ fn_first_error := ⟨_, _, w_first_error (P := P) (w := w) (base := base) F SR TR D_over D_weighed D_opposite D_room_of Fd_first_error g_first_error⟩
  have D_level : Def3 P w K mg base "level" _ _ fn_level := ⟨_, _, w_level (P := P) (w := w) (base := base) F SR TR D_less D_over D_turned D_through D_opposite D_first_error Fd_level g_level⟩
  have D_bound : Def3 P w K mg base "bound" _ _ fn_bound := ⟨_, _, w_bound (P := P) (w := w) (base := base) F SR TR D_unsigned D_first_error Fd_bound g_bound⟩
  have D_law_pot : Def3 P w K mg base "_law_pot" _ _ fn_law_pot := ⟨_, _, w_law_pot (P := P) (w := w) (base := base) F SR TR Fd_law_pot g_law_pot⟩
  have D_law_draw : Def3 P w K mg base "_law_draw" _ _ fn_law_draw := ⟨_, _, w_law_draw (P := P) (w := w) (base := base) F SR TR Fd_law_draw g_law_draw⟩
  have D_law_fraction : Def3 P w K mg base "_law_fraction" _ _ fn_law_fraction := ⟨_, _, w_law_fraction (P := P) (w := w) (base := base) F SR TR Fd_law_fraction g_law_fraction⟩
  have D_law_plus : Def3 P w K mg base "_law_plus" _ _ fn_law_plus := ⟨_, _, w_law_plus (P := P) (w := w) (base := base) F SR TR D_law_fraction Fd_law_plus g_law_plus⟩
  have D_law_less : Def3 P w K mg base "_law_less" _ _ fn_law_less := ⟨_, _, w_law_less (P := P) (w := w) (base := base) F SR TR D_law_fraction Fd_law_less g_law_less⟩
  have D_law_times : Def3 P w K mg base "_law_times" _ _ fn_law_times := ⟨_, _, w_law_times (P := P) (w := w) (base := base) F SR TR D_law_fraction Fd_law_times g_law_times⟩
  have D_law_by : Def3 P w K mg base "_law_by" _ _ fn_law_by := ⟨_, _, w_law_by (P := P) (w := w) (base := base) F SR TR D_law_fraction Fd_law_by g_law_by⟩
  have D_law_is_fraction : Def3 P w K mg base "_law_is_fraction" _ _ fn_law_is_fraction := ⟨_, _, w_law_is_fraction (P := P) (w := w) (base := base) F SR TR D_law_fraction Fd_law_is_fraction g_law_is_fraction⟩
  have D_law_numbers : Def3 P w K mg base "_law_numbers" _ _ fn_law_numbers := ⟨_, _, w_law_numbers (P := P) (w := w) (base := base) F SR TR D_law_draw D_law_fraction Fd_law_numbers g_law_numbers⟩
  have D_law_value : Def3 P w K mg base "_law_value" _ _ fn_law_value := ⟨_, _, w_law_value (P := P) (w := w) (base := base) F SR TR D_law_draw D_law_fraction Fd_law_value g_law_value⟩
  have D_law_weight : Def3 P w K mg base "_law_weight" _ _ fn_law_weight := ⟨_, _, w_law_weight (P := P) (w := w) (base := base) F SR TR D_law_draw D_law_fraction Fd_law_weight g_law_weight⟩
  have D_law_at : Def3 P w K mg base "_law_at" _ _ fn_law_at := ⟨_, _, w_law_at (P := P) (w := w) (base := base) F SR TR D_law_plus D_law_times Fd_law_at g_law_at⟩
  have D_law_errors : Def3 P w K mg base "_law_errors" _ _ fn_law_errors := ⟨_, _, w_law_errors (P := P) (w := w) (base := base) F SR TR D_law_less D_law_times D_law_at Fd_law_errors g_law_errors⟩
  have D_law_unsigned : Def3 P w K mg base "_law_unsigned" _ _ fn_law_unsigned := ⟨_, _, w_law_unsigned (P := P) (w := w) (base := base) F SR TR Fd_law_unsigned g_law_unsigned⟩
  have D_law_is_poly : Def3 P w K mg base "_law_is_poly" _ _ fn_law_is_poly := ⟨_, _, w_law_is_poly (P := P) (w := w) (base := base) F SR TR D_law_is_fraction Fd_law_is_poly g_law_is_poly⟩
  have D_law_reference : Def3 P w K mg base "_law_reference" _ _ fn_law_reference := ⟨_, _, w_law_reference (P := P) (w := w) (base := base) F SR TR D_law_numbers D_law_value D_law_weight Fd_law_reference g_law_reference⟩
  have D_law_right : Def3 P w K mg base "_law_right" _ _ fn_law_right := ⟨_, _, w_law_right (P := P) (w := w) (base := base) F SR TR D_law_is_fraction D_law_errors D_law_is_poly Fd_law_right g_law_right⟩
  exact (w_law (P := P) (w := w) (base := base) F SR TR D_level D_bound D_law_pot D_law_draw D_law_unsigned D_law_reference D_law_right Fd_law g_law).ok
theorem lawD (hl : ∀ ns : List Int, ns.length ≤ 63 → ∃ L, fn_law [.rol (ns.map D.int)] [] = .val (.bl true) L) : PySem.Challenge.rw_evenerror_k23_level.Holds := by
  w_on; o_law
  refine HandSHeadRun.head_any (r := RowR) (q := PySem.W.view RowR.prog [53]) (H := hkD) (ob := obD) (M := 8000) (loose := looseD) (d := HandSHeadRun.topDef RowR.prog 53) (kwd := []) obD_eq (by kernel_rfl) (fun s => by kernel_rfl) runD (by kernel_rfl) (by kernel_rfl) (by kernel_rfl) (by rfl) (by first | assumption | decide +kernel) (by decide +kernel) ⟨rfl, rfl, rfl, rfl, rfl, by decide +kernel⟩ ?hw ?hc
  case hw => w_witness2
  case hc =>
    refine law_walk4 (lw := PySem.Challenge.rw_evenerror_k23_level) (n := 63) (k := 45) (x := "_law_script") (fn := fn_law) rfl (by decide) (by kernel_rfl) ⟨rfl, by decide, by decide⟩ (by kernel_rfl) ?F hl
    intro w mg fa h Y Gn hmg0
    obtain ⟨K, KX, c⟩ := Y
    have hmg : mg ("law" : Str) = some (.ref fa) := by
      have e : (HandSHeadRun.topDef RowR.prog 53).name = ("law" : Str) := by kernel_rfl
      rw [← e]
      exact hmg0
    obtain ⟨fd, hb, hF⟩ := factsD (P := PySem.Challenge.rw_evenerror_k23_level.prog) (w := w) KX Gn hmg c.t.d c.more (by kernel_rfl)
    exact ⟨K, fd, KX, hb, hF⟩

end G
set_option maxRecDepth 100000 in
set_option maxHeartbeats 0 in
theorem PySem.Challenge.cw_evenerror_k23_level_holds : PySem.Challenge.rw_evenerror_k23_level.Holds :=
  G.lawD G.fn_law_eq
