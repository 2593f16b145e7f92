import PyProof.Rows.All
import Wide.All
import OpenK.AllK
import Wide.FinOn
import HandS.ForMost
import HandS.ForExc
import HandS.Wide
import HandS.WideBits
import HandS.IsInst
import HandS.Deep
import HandS.Walk
import HandS.Zip
import HandS.Rev
import HandS.CallSlots
import HandS.HeadHook1
import HandS.Defaults
import HandS.More
import HandS.SetFor
import HandS.Conv
import HandS.TupAny
import HandS.HeadEnd
import HandS.HeadHook2
import HandS.HeadHook3
import HandS.HeadHook4
import HandS.Head0
import HandS.Head1
import HandS.Head2
import KE.GoesEnum
import KE.GoesMore
import KE.GoesZip
import HandS.Style
import PyProof.ReprRoads
import HandS.ExcIs
import HandS.TryOnly
import PySem.Challenge.RW_evenerror_k51_sides_and_witnesses
set_option Elab.async false
set_option linter.all false
set_option maxRecDepth 100000
set_option maxHeartbeats 4000000
namespace G
open PySem PySem.Spec PyProof.Rows L2

/-! ## values, cells -/
inductive D where
  | non | bl (b : Bool) | int (i : Int) | str (x : Str) | tup (xs : List D) | loc (n : Nat) | rol (xs : List D) | val (v : V)
inductive Cell where
  | lst (xs : List D) | ins (C : Addr) (fs : List (Str × D))
abbrev Lh := List Cell
abbrev G3 := List (Option D)
inductive R3 (α : Type) where
  | val (a : α) (L : Lh) | exn (c : Str) (L : Lh) | stuck
@[simp] def R3.bind {α β : Type} (r : R3 α) (f : α → Lh → R3 β) : R3 β := match r with
  | .val a L => f a L
  | .exn c L => .exn c L
  | .stuck => .stuck
abbrev E3 := G3 → Lh → R3 D
abbrev T3 := G3 → Lh → R3 Bool
abbrev A3 := G3 → Lh → R3 (List D)
abbrev Fn3 := List D → Lh → R3 D
inductive Out where
  | nx (Γ : G3) (L : Lh) | ret (d : D) (L : Lh) | brk (Γ : G3) (L : Lh) | ct (Γ : G3) (L : Lh) | exn (c : Str) (Γ : G3) (L : Lh) | stuck
abbrev S3 := G3 → Lh → Out
/-! ## what represents what -/
def RoL (K : PySem.W.Frag) (H : Hp) (a : Addr) (xs : List V) : Prop := (∃ o, H a = some (.frz o (.lst xs))) ∨
    ∃ (o : Obj) (its : Array Value) (n : Nat), K.lookup a = some o ∧ o.cls = .type "list" ∧ o.dict = none ∧ o.data = .seq its n ∧ its.size ≤ sizeLine ∧ Vals xs its.toList
theorem RoL.sq {K : PySem.W.Frag} {H : Hp} {a : Addr} {xs : List V} (h : RoL K H a xs) : SqL K H a xs := by
  rcases h with ⟨o, h⟩ | h
  · exact .inl (.inr ⟨o, h⟩)
  · exact .inr h
mutual
def Rep (K : PySem.W.Frag) (ρ : List Addr) (H : Hp) : D → V → Prop
  | .non, v => v = .non
  | .bl b, v => v = .bl b
  | .int i, v => v = .int i
  | .str x, v => v = .str x
  | .tup xs, v => ∃ a vs, v = .ref a ∧ SqT K H a vs ∧ Reps K ρ H xs vs
  | .loc n, v => ∃ a, v = .ref a ∧ ρ[n]? = some a
  | .rol xs, v => ∃ a vs, v = .ref a ∧ RoL K H a vs ∧ Reps K ρ H xs vs
  | .val u, v => v = u
def Reps (K : PySem.W.Frag) (ρ : List Addr) (H : Hp) : List D → List V → Prop
  | [], vs => vs = []
  | x :: xs, vs => ∃ v r, vs = v :: r ∧ Rep K ρ H x v ∧ Reps K ρ H xs r
end
/-- fields of an instance: the same names in the same order -/
def FReps (K : PySem.W.Frag) (ρ : List Addr) (H : Hp) : List (Str × D) → List (Str × V) → Prop
  | [], gs => gs = []
  | x :: xs, gs => ∃ v r, gs = (x.1, v) :: r ∧ Rep K ρ H x.2 v ∧ FReps K ρ H xs r
def CellOk (K : PySem.W.Frag) (ρ : List Addr) (H : Hp) (a : Addr) : Cell → Prop
  | .lst xs => ∃ vs, H a = some (.lst vs) ∧ Reps K ρ H xs vs
  | .ins C fs => ∃ dx gs, H a = some (.ins C dx gs) ∧ H dx = some (.own a) ∧ FReps K ρ H fs gs
structure Ab (K : PySem.W.Frag) (ρ : List Addr) (H : Hp) (L : Lh) : Prop where
  len : ρ.length = L.length
  nd : ρ.Nodup
  cell : ∀ (n : Nat) (c : Cell), L[n]? = some c → ∃ a, ρ[n]? = some a ∧ CellOk K ρ H a c
/-- what later states keep -/
structure Ext (ρ : List Addr) (H : Hp) (ρ' : List Addr) (H' : Hp) : Prop where
  tup : ∀ a xs, H a = some (.tup xs) → H' a = some (.tup xs)
  frz : ∀ a o u, H a = some (.frz o u) → H' a = some (.frz o u)
  pre : ∃ t, ρ' = ρ ++ t
theorem Ext.refl (ρ : List Addr) (H : Hp) : Ext ρ H ρ H := ⟨fun _ _ h => h, fun _ _ _ h => h, ⟨[], (List.append_nil ρ).symm⟩⟩
theorem Ext.trans {ρ ρ1 ρ2 : List Addr} {H H1 H2 : Hp} (a : Ext ρ H ρ1 H1) (b : Ext ρ1 H1 ρ2 H2) : Ext ρ H ρ2 H2 :=
  ⟨fun c xs h => b.tup c xs (a.tup c xs h), fun c o u h => b.frz c o u (a.frz c o u h), by
    obtain ⟨t, h1⟩ := a.pre
    obtain ⟨t2, h2⟩ := b.pre
    exact ⟨t ++ t2, by rw [h2, h1, List.append_assoc]⟩⟩
theorem Ext.at {ρ ρ' : List Addr} {H H' : Hp} (e : Ext ρ H ρ' H') {n : Nat} {a : Addr} (h : ρ[n]? = some a) : ρ'[n]? = some a := by
  obtain ⟨t, rfl⟩ := e.pre
  rw [List.getElem?_append_left (List.getElem?_eq_some_iff.mp h).1]
  exact h
theorem Ext.sqT {K : PySem.W.Frag} {ρ ρ' : List Addr} {H H' : Hp} (e : Ext ρ H ρ' H') {a : Addr} {xs : List V} (h : SqT K H a xs) : SqT K H' a xs := by
  rcases h with (h | ⟨o, h⟩) | h
  · exact .inl (.inl (e.tup _ _ h))
  · exact .inl (.inr ⟨o, e.frz _ _ _ h⟩)
  · exact .inr h
theorem Ext.roL {K : PySem.W.Frag} {ρ ρ' : List Addr} {H H' : Hp} (e : Ext ρ H ρ' H') {a : Addr} {xs : List V} (h : RoL K H a xs) : RoL K H' a xs := by
  rcases h with ⟨o, h⟩ | h
  · exact .inl ⟨o, e.frz _ _ _ h⟩
  · exact .inr h
mutual
theorem Rep.mono {K : PySem.W.Frag} {ρ ρ' : List Addr} {H H' : Hp} (e : Ext ρ H ρ' H') : ∀ (d : D) {v : V}, Rep K ρ H d v → Rep K ρ' H' d v
  | .non, _, h => h
  | .bl _, _, h => h
  | .int _, _, h => h
  | .str _, _, h => h
  | .tup xs, _, ⟨a, vs, h1, h2, h3⟩ => ⟨a, vs, h1, e.sqT h2, Reps.mono e xs h3⟩
  | .loc _, _, ⟨a, h1, h2⟩ => ⟨a, h1, e.at h2⟩
  | .rol xs, _, ⟨a, vs, h1, h2, h3⟩ => ⟨a, vs, h1, e.roL h2, Reps.mono e xs h3⟩
  | .val _, _, h => h
theorem Reps.mono {K : PySem.W.Frag} {ρ ρ' : List Addr} {H H' : Hp} (e : Ext ρ H ρ' H') : ∀ (ds : List D) {vs : List V}, Reps K ρ H ds vs → Reps K ρ' H' ds vs
  | [], _, h => h
  | x :: xs, _, ⟨v, r, h1, h2, h3⟩ => ⟨v, r, h1, Rep.mono e x h2, Reps.mono e xs h3⟩
end
theorem FReps.mono {K : PySem.W.Frag} {ρ ρ' : List Addr} {H H' : Hp} (e : Ext ρ H ρ' H') : ∀ (fs : List (Str × D)) {gs : List (Str × V)}, FReps K ρ H fs gs → FReps K ρ' H' fs gs
  | [], _, h => h
  | x :: xs, _, ⟨v, r, h1, h2, h3⟩ => ⟨v, r, h1, Rep.mono e x.2 h2, FReps.mono e xs h3⟩
section
variable {K : PySem.W.Frag} {ρ ρ' : List Addr} {H H' : Hp} {L L' : Lh}
theorem Reps.length : ∀ {ds : List D} {vs : List V}, Reps K ρ H ds vs → vs.length = ds.length
  | [], _, h => by rw [show _ = [] from h]; rfl
  | x :: xs, _, ⟨v, r, h1, _, h3⟩ => by rw [h1, List.length_cons, List.length_cons, Reps.length h3]
theorem Reps.get : ∀ {ds : List D} {vs : List V}, Reps K ρ H ds vs → ∀ {i : Nat} {d : D}, ds[i]? = some d → ∃ v, vs[i]? = some v ∧ Rep K ρ H d v
  | [], _, _, i, d, h => by simp at h
  | x :: xs, _, ⟨v, r, h1, h2, h3⟩, 0, d, h => by subst h1; simp at h; subst h; exact ⟨v, rfl, h2⟩
  | x :: xs, _, ⟨v, r, h1, h2, h3⟩, i + 1, d, h => by
    subst h1
    obtain ⟨u, e1, e2⟩ := Reps.get h3 (i := i) (d := d) (by simpa using h)
    exact ⟨u, by simpa using e1, e2⟩
theorem Reps.getV : ∀ {ds : List D} {vs : List V}, Reps K ρ H ds vs → ∀ {i : Nat} {v : V}, vs[i]? = some v → ∃ d, ds[i]? = some d ∧ Rep K ρ H d v
  | [], _, h, i, d, h2 => by rw [show _ = [] from h] at h2; simp at h2
  | x :: xs, _, ⟨v, r, h1, h2, h3⟩, 0, d, h => by subst h1; simp at h; subst h; exact ⟨x, rfl, h2⟩
  | x :: xs, _, ⟨v, r, h1, h2, h3⟩, i + 1, d, h => by
    subst h1
    obtain ⟨u, e1, e2⟩ := Reps.getV h3 (i := i) (v := d) (by simpa using h)
    exact ⟨u, by simpa using e1, e2⟩
theorem Reps.append : ∀ {ds es : List D} {vs us : List V}, Reps K ρ H ds vs → Reps K ρ H es us → Reps K ρ H (ds ++ es) (vs ++ us)
  | [], _, _, _, h, h2 => by rw [show _ = [] from h]; exact h2
  | x :: xs, _, _, _, ⟨v, r, h1, h2, h3⟩, h4 => by subst h1; exact ⟨v, r ++ _, rfl, h2, Reps.append h3 h4⟩
theorem Reps.one {d : D} {v : V} (h : Rep K ρ H d v) : Reps K ρ H [d] [v] := ⟨v, [], rfl, h, rfl⟩
theorem Reps.set {d : D} {v : V} (h : Rep K ρ H d v) : ∀ {ds : List D} {vs : List V} (i : Nat), Reps K ρ H ds vs → Reps K ρ H (ds.set i d) (vs.set i v)
  | [], _, _, h => by rw [show _ = [] from h]; rfl
  | x :: xs, _, 0, ⟨u, r, h1, h2, h3⟩ => by subst h1; exact ⟨v, r, rfl, h, h3⟩
  | x :: xs, _, i + 1, ⟨u, r, h1, h2, h3⟩ => by subst h1; exact ⟨u, r.set i v, rfl, h2, Reps.set h i h3⟩
theorem Reps.take : ∀ {ds : List D} {vs : List V} (i : Nat), Reps K ρ H ds vs → Reps K ρ H (ds.take i) (vs.take i)
  | _, _, 0, _ => by rw [List.take_zero, List.take_zero]; rfl
  | [], _, i + 1, h => by rw [show _ = [] from h]; rfl
  | x :: xs, _, i + 1, ⟨u, r, h1, h2, h3⟩ => by subst h1; exact ⟨u, r.take i, rfl, h2, Reps.take i h3⟩
theorem Reps.drop : ∀ {ds : List D} {vs : List V} (i : Nat), Reps K ρ H ds vs → Reps K ρ H (ds.drop i) (vs.drop i)
  | _, _, 0, h => h
  | [], _, i + 1, h => by rw [show _ = [] from h]; rfl
  | x :: xs, _, i + 1, ⟨u, r, h1, h2, h3⟩ => by subst h1; exact Reps.drop i h3
theorem Reps.rev : ∀ {ds : List D} {vs : List V}, Reps K ρ H ds vs → Reps K ρ H ds.reverse vs.reverse
  | [], _, h => by rw [show _ = [] from h]; rfl
  | x :: xs, _, ⟨u, r, h1, h2, h3⟩ => by subst h1; rw [List.reverse_cons, List.reverse_cons]; exact Reps.append (Reps.rev h3) (Reps.one h2)
theorem Ab.fresh (A : Ab K ρ H L) {p : Addr} (h : H p = none) : p ∉ ρ := fun hp => by
  obtain ⟨n, hn⟩ := List.getElem?_of_mem hp
  have hl : n < L.length := by rw [← A.len]; exact (List.getElem?_eq_some_iff.mp hn).1
  obtain ⟨a, e, c⟩ := A.cell n L[n] (List.getElem?_eq_getElem hl)
  rw [hn] at e; cases e
  cases hc : L[n] with
  | lst xs => rw [hc] at c; obtain ⟨vs, q, _⟩ := c; rw [h] at q; cases q
  | ins C fs => rw [hc] at c; obtain ⟨dx, gs, q, _⟩ := c; rw [h] at q; cases q
theorem CellOk.keep {a : Addr} {c : Cell} (e : Ext ρ H ρ' H') (k : ∀ o, H a = some o → H' a = some o) (ko : ∀ b, H b = some (.own a) → H' b = some (.own a)) (h : CellOk K ρ H a c) : CellOk K ρ' H' a c := by
  cases c with
  | lst xs => obtain ⟨vs, q, r⟩ := h; exact ⟨vs, k _ q, Reps.mono e _ r⟩
  | ins C fs => obtain ⟨dx, gs, q, d, r⟩ := h; exact ⟨dx, gs, k _ q, ko _ d, FReps.mono e _ r⟩
/-- a new object that is not of the cells -/
theorem ext_new {p : Addr} {o : HO} (h : H p = none) : Ext ρ H ρ (upd H p o) :=
  ⟨fun a xs e => by rw [upd_ne (ne_of_none e h)]; exact e, fun a o u e => by rw [upd_ne (ne_of_none e h)]; exact e, ⟨[], (List.append_nil ρ).symm⟩⟩
theorem ext_more (ρ t : List Addr) (H : Hp) : Ext ρ H (ρ ++ t) H := ⟨fun _ _ h => h, fun _ _ _ h => h, ⟨t, rfl⟩⟩
theorem Ab.new (A : Ab K ρ H L) {p : Addr} {o : HO} (h : H p = none) : Ab K ρ (upd H p o) L :=
  ⟨A.len, A.nd, fun n c e => by
    obtain ⟨a, e1, e2⟩ := A.cell n c e
    exact ⟨a, e1, e2.keep (ext_new h) (fun o q => by rw [upd_ne (ne_of_none q h)]; exact q) fun b q => by rw [upd_ne (ne_of_none q h)]; exact q⟩⟩
theorem Ab.alloc (A : Ab K ρ H L) {p : Addr} {vs : List V} {xs : List D} (h : H p = none) (r : Reps K ρ H xs vs) : Ab K (ρ ++ [p]) (upd H p (.lst vs)) (L ++ [.lst xs]) := by
  have e1 : Ext ρ H ρ (upd H p (.lst vs)) := ext_new h
  have e2 : Ext ρ (upd H p (.lst vs)) (ρ ++ [p]) (upd H p (.lst vs)) := ext_more ρ [p] _
  have A1 : Ab K ρ (upd H p (.lst vs)) L := A.new h
  refine ⟨by rw [List.length_append, List.length_append, A.len]; rfl, ?_, fun n c e => ?_⟩
  · rw [List.nodup_append]
    refine ⟨A.nd, by simp, fun a ha b hb e => ?_⟩
    rw [List.mem_singleton.mp hb] at e
    exact A.fresh h (e ▸ ha)
  · by_cases hn : n < L.length
    · rw [List.getElem?_append_left hn] at e
      obtain ⟨a, q1, q2⟩ := A1.cell n c e
      exact ⟨a, e2.at q1, q2.keep e2 (fun _ q => q) fun _ q => q⟩
    · have hn' : n = L.length := by
        have := (List.getElem?_eq_some_iff.mp e).1
        rw [List.length_append] at this
        simp at this; omega
      subst hn'
      rw [List.getElem?_append_right (Nat.le_refl _), Nat.sub_self] at e
      simp at e; subst e
      refine ⟨p, ?_, vs, upd_same, Reps.mono (e1.trans e2) _ r⟩
      rw [← A.len, List.getElem?_append_right (Nat.le_refl _), Nat.sub_self]; rfl
theorem nodup_at (A : Ab K ρ H L) {n m : Nat} {a : Addr} (h1 : ρ[n]? = some a) (h2 : ρ[m]? = some a) : n = m := by
  obtain ⟨l1, e1⟩ := List.getElem?_eq_some_iff.mp h1
  obtain ⟨l2, e2⟩ := List.getElem?_eq_some_iff.mp h2
  exact (List.getElem_inj A.nd).mp (e1.trans e2.symm)
/-- a list is changed -/
theorem ext_set {a : Addr} {vs ws : List V} (h : H a = some (.lst vs)) : Ext ρ H ρ (upd H a (.lst ws)) :=
  ⟨fun b xs e => by rw [upd_ne (ne_of e h (by intro z; cases z))]; exact e, fun b o u e => by rw [upd_ne (ne_of e h (by intro z; cases z))]; exact e, ⟨[], (List.append_nil ρ).symm⟩⟩
theorem Ab.setl (A : Ab K ρ H L) {n : Nat} {xs ys : List D} {a : Addr} {ws : List V} (hL : L[n]? = some (.lst xs)) (ha : ρ[n]? = some a) (r : Reps K ρ H ys ws) : Ab K ρ (upd H a (.lst ws)) (L.set n (.lst ys)) := by
  obtain ⟨a', e1, vs, hv, _⟩ := A.cell n _ hL
  rw [ha] at e1; cases e1
  have ex : Ext ρ H ρ (upd H a (.lst ws)) := ext_set hv
  refine ⟨by rw [List.length_set]; exact A.len, A.nd, fun m c e => ?_⟩
  by_cases hm : n = m
  · subst hm
    rw [List.getElem?_set_self (List.getElem?_eq_some_iff.mp hL).1] at e
    cases e
    exact ⟨a, ha, ws, upd_same, Reps.mono ex _ r⟩
  · rw [List.getElem?_set_ne hm] at e
    obtain ⟨b, q1, q2⟩ := A.cell m c e
    have nb : b ≠ a := fun z => hm (nodup_at A ha (z ▸ q1))
    exact ⟨b, q1, q2.keep ex (fun o q => by rw [upd_ne nb]; exact q) fun d q => by rw [upd_ne (ne_of q hv (by intro z; cases z))]; exact q⟩
theorem Ab.at (A : Ab K ρ H L) {n : Nat} {xs : List D} (hL : L[n]? = some (.lst xs)) {v : V} (r : Rep K ρ H (.loc n) v) : ∃ a vs, v = .ref a ∧ ρ[n]? = some a ∧ H a = some (.lst vs) ∧ Reps K ρ H xs vs := by
  obtain ⟨a, rfl, h⟩ := r
  obtain ⟨a', e1, vs, hv, q⟩ := A.cell n _ hL
  rw [h] at e1; cases e1
  exact ⟨a, vs, rfl, h, hv, q⟩
end
/-! ## the judgements -/
def Env3 (K : PySem.W.Frag) (ρ : List Addr) (H : Hp) (σ : L2.St) (Γ : G3) : Prop := σ.length = Γ.length ∧ ∀ (i : Nat) (d : D), Γ[i]? = some (some d) → ∃ v, σ[i]? = some (some v) ∧ Rep K ρ H d v
/-- what must hold of a result so that what is wanted holds -/
def Hold {α β : Type} (K : PySem.W.Frag) (W : WX) (σ : L2.St) (ρ : List Addr) (H : Hp) (rep : List Addr → Hp → α → β → Prop) (Q : β → Hp → Prop) : R3 α → Prop
  | .val d L => ∀ v H' ρ', Ext ρ H ρ' H' → rep ρ' H' d v → Ab K ρ' H' L → Q v H'
  | .exn c L => ∀ H' ρ', Ext ρ H ρ' H' → Ab K ρ' H' L → W (.ref (He.ga K c)) none σ H'
  | .stuck => False
def SHold (K : PySem.W.Frag) (W : WX) (ρ : List Addr) (H : Hp) (Dn : Ends) : Out → Prop
  | .nx Γ L => ∀ σ' H' ρ', Ext ρ H ρ' H' → Env3 K ρ' H' σ' Γ → Ab K ρ' H' L → Dn.nx σ' H'
  | .ret d L => ∀ v H' ρ', Ext ρ H ρ' H' → Rep K ρ' H' d v → Ab K ρ' H' L → Dn.rt v H'
  | .brk Γ L => ∀ σ' H' ρ', Ext ρ H ρ' H' → Env3 K ρ' H' σ' Γ → Ab K ρ' H' L → Dn.bk σ' H'
  | .ct Γ L => ∀ σ' H' ρ', Ext ρ H ρ' H' → Env3 K ρ' H' σ' Γ → Ab K ρ' H' L → Dn.ct σ' H'
  | .exn c Γ L => ∀ σ' H' ρ', Ext ρ H ρ' H' → Env3 K ρ' H' σ' Γ → Ab K ρ' H' L → W (.ref (He.ga K c)) none σ' H'
  | .stuck => False
def RepB (ρ : List Addr) (H : Hp) (a b : Bool) : Prop := a = b
def PE3 (X : Cx) (W : WX) (e : Expr) (f : E3) : Prop := ∃ te, PE X e te ∧ ∀ σ H ρ Γ L Q, Env3 X.K ρ H σ Γ → Ab X.K ρ H L → Hold X.K W σ ρ H (Rep X.K) Q (f Γ L) → te σ H Q
def PT3 (X : Cx) (W : WX) (e : Expr) (f : T3) : Prop := ∃ te, PT X e te ∧ ∀ σ H ρ Γ L Q, Env3 X.K ρ H σ Γ → Ab X.K ρ H L → Hold X.K W σ ρ H RepB Q (f Γ L) → te σ H Q
def PW3 (X : Cx) (W : WX) (e : Expr) (f : T3) : Prop := ∃ te, PW X e te ∧ ∀ σ H ρ Γ L Q, Env3 X.K ρ H σ Γ → Ab X.K ρ H L → Hold X.K W σ ρ H RepB Q (f Γ L) → te σ H Q
def PA3 (X : Cx) (W : WX) (es : List Expr) (f : A3) : Prop := ∃ te, PA X es te ∧ ∀ σ H ρ Γ L Q, Env3 X.K ρ H σ Γ → Ab X.K ρ H L → Hold X.K W σ ρ H (Reps X.K) Q (f Γ L) → te σ H Q
def PS3 (X : Cx) (W : WX) (st : Stmt) (t : S3) : Prop := ∃ ts, PS X st ts ∧ ∀ σ H ρ Γ L Dn, Env3 X.K ρ H σ Γ → Ab X.K ρ H L → SHold X.K W ρ H Dn (t Γ L) → ts Dn σ H
def PSs3 (X : Cx) (W : WX) (st : List Stmt) (t : S3) : Prop := ∃ ts, PSs X st ts ∧ ∀ σ H ρ Γ L Dn, Env3 X.K ρ H σ Γ → Ab X.K ρ H L → SHold X.K W ρ H Dn (t Γ L) → ts Dn σ H
section
variable {K : PySem.W.Frag} {W : WX} {σ : L2.St} {ρ ρ1 ρ' : List Addr} {H H1 H' : Hp} {Γ : G3} {L : Lh}
theorem Env3.mono (e : Ext ρ H ρ' H') (h : Env3 K ρ H σ Γ) : Env3 K ρ' H' σ Γ := ⟨h.1, fun i d q => by
  obtain ⟨v, a, b⟩ := h.2 i d q
  exact ⟨v, a, Rep.mono e d b⟩⟩
theorem Env3.set (h : Env3 K ρ H σ Γ) {i : Nat} {d : D} {v : V} (r : Rep K ρ H d v) : Env3 K ρ H (σ.set i (some v)) (Γ.set i (some d)) := ⟨by simp [h.1], fun j e q => by
  by_cases hj : i = j
  · subst hj
    by_cases hi : i < Γ.length
    · rw [List.getElem?_set_self hi] at q
      cases q
      exact ⟨v, List.getElem?_set_self (by rw [h.1]; exact hi), r⟩
    · rw [List.getElem?_eq_none (by simp; omega)] at q; cases q
  · rw [List.getElem?_set_ne hj] at q
    obtain ⟨u, a, b⟩ := h.2 j e q
    exact ⟨u, by rw [List.getElem?_set_ne hj]; exact a, b⟩⟩
theorem Hold.ext {α β : Type} {rep : List Addr → Hp → α → β → Prop} {Q : β → Hp → Prop} (e : Ext ρ H ρ1 H1) : ∀ {r : R3 α}, Hold K W σ ρ H rep Q r → Hold K W σ ρ1 H1 rep Q r
  | .val d L, h => fun v H' ρ' e2 => h v H' ρ' (e.trans e2)
  | .exn c L, h => fun H' ρ' e2 => h H' ρ' (e.trans e2)
  | .stuck, h => h
theorem SHold.ext {Dn : Ends} (e : Ext ρ H ρ1 H1) : ∀ {r : Out}, SHold K W ρ H Dn r → SHold K W ρ1 H1 Dn r
  | .nx Γ L, h => fun v H' ρ' e2 => h v H' ρ' (e.trans e2)
  | .ret c L, h => fun dd H' ρ' e2 => h dd H' ρ' (e.trans e2)
  | .brk Γ L, h => fun v H' ρ' e2 => h v H' ρ' (e.trans e2)
  | .ct Γ L, h => fun v H' ρ' e2 => h v H' ρ' (e.trans e2)
  | .exn c Γ L, h => fun σ' H' ρ' e2 => h σ' H' ρ' (e.trans e2)
  | .stuck, h => h
theorem hbind {α β γ δ : Type} {rep : List Addr → Hp → α → β → Prop} {rep' : List Addr → Hp → γ → δ → Prop} {Q : δ → Hp → Prop} {R : β → Hp → Prop} {r : R3 α} {f : α → Lh → R3 γ}
    (h : Hold K W σ ρ H rep' Q (r.bind f)) (n : ∀ d L1 v H1 ρ1, Ext ρ H ρ1 H1 → rep ρ1 H1 d v → Ab K ρ1 H1 L1 → Hold K W σ ρ1 H1 rep' Q (f d L1) → R v H1) : Hold K W σ ρ H rep R r := by
  cases r with
  | val d L => exact fun v H' ρ' e r a => n d L v H' ρ' e r a (Hold.ext e h)
  | exn c L => exact h
  | stuck => exact h
theorem Hold.imp {α β : Type} {rep : List Addr → Hp → α → β → Prop} {Q Q' : β → Hp → Prop} {r : R3 α} (h : Hold K W σ ρ H rep Q r) (n : ∀ v H', Q v H' → Q' v H') : Hold K W σ ρ H rep Q' r := by
  cases r with
  | val d L => exact fun v H' ρ' e r a => n v H' (h v H' ρ' e r a)
  | exn c L => exact h
  | stuck => exact h
theorem Hold.mk {α β : Type} {rep : List Addr → Hp → α → β → Prop} {Q : β → Hp → Prop} {d : α} {v : β} (h : Hold K W σ ρ H rep Q (.val d L)) (A : Ab K ρ H L) (r : rep ρ H d v) : Q v H := h v H ρ (Ext.refl ρ H) r A
end
/-! ## expressions -/
section
variable {X : Cx} {W : WX} {a b c : Expr} {fa fb fc : E3} {pos : Pos}
@[simp] def eVar (i : Nat) (Γ : G3) (L : Lh) : R3 D := match Γ[i]? with
  | some (some d) => .val d L
  | _ => .stuck
theorem e3_var (i : Nat) {x : Str} (hN : X.N[i]? = some x := by rfl) (hv : Vis X.env.scope x := by first | exact Or.inl rfl | exact Or.inr (Or.inl rfl) | exact Or.inr (Or.inr rfl)) (hd : (x == ("__debug__" : Str)) = false := by decide)
    (hcd : (x == ("__classdict__" : Str)) = false := by decide) : PE3 X W (.Name x pos) (eVar i) := by
  refine ⟨_, pe_var hN hv hd hcd, fun σ H ρ Γ L Q E A h => ?_⟩
  unfold eVar at h
  split at h
  · rename_i d q
    obtain ⟨v, e1, e2⟩ := E.2 i d q
    exact ⟨v, e1, h.mk A e2⟩
  · exact h.elim
@[simp] def eC (d : D) (_ : G3) (L : Lh) : R3 D := .val d L
theorem e3_int {i : Int} {j} : PE3 X W (.Constant (.int i) j pos) (eC (.int i)) := ⟨_, pe_int, fun σ H ρ Γ L Q E A h => h.mk A rfl⟩
theorem e3_bl {i : Bool} {j} : PE3 X W (.Constant (.bool i) j pos) (eC (.bl i)) := ⟨_, pe_bl, fun σ H ρ Γ L Q E A h => h.mk A rfl⟩
theorem e3_non {j} : PE3 X W (.Constant .none j pos) (eC .non) := ⟨_, pe_non, fun σ H ρ Γ L Q E A h => h.mk A rfl⟩
theorem e3_str {x : Str} {j} : PE3 X W (.Constant (.str x) j pos) (eC (.str x)) := ⟨_, pe_str, fun σ H ρ Γ L Q E A h => h.mk A rfl⟩
/-- a module's constant -/
theorem e3_glob {x : Str} {v : V} {u : Value} {d : D} (hg : Gl X x) (hm : X.mg x = some u) (r : RelV v u) (hr : ∀ ρ H, Rep X.K ρ H d v) (hd : (x == ("__debug__" : Str)) = false := by decide) : PE3 X W (.Name x pos) (eC d) :=
  ⟨_, pe_glob hg hm r hd, fun σ H ρ Γ L Q E A h => h.mk A (hr ρ H)⟩
/-- operators by values: what a rule of the layer asks is met where the level-3 operator answers -/
abbrev Op3 := D → D → Lh → R3 D
def OpOk (K : PySem.W.Frag) (r : R2) (f : Op3) : Prop := ∀ W σ ρ H L (Q : VK) x y vx vy, Ab K ρ H L → Rep K ρ H x vx → Rep K ρ H y vy → Hold K W σ ρ H (Rep K) Q (f x y L) → r vx vy H Q
abbrev Un3 := D → Lh → R3 D
def UnOk (K : PySem.W.Frag) (r : V → Hp → VK → Prop) (f : Un3) : Prop := ∀ W σ ρ H L (Q : VK) x vx, Ab K ρ H L → Rep K ρ H x vx → Hold K W σ ρ H (Rep K) Q (f x L) → r vx H Q
def CaOk (K : PySem.W.Frag) (r : List V → Hp → VK → Prop) (f : Fn3) : Prop := ∀ W σ ρ H L (Q : VK) xs vs, Ab K ρ H L → Reps K ρ H xs vs → Hold K W σ ρ H (Rep K) Q (f xs L) → r vs H Q
@[simp] def eOp (f : Op3) (fa fb : E3) (Γ : G3) (L : Lh) : R3 D := (fa Γ L).bind fun x L1 => (fb Γ L1).bind fun y L2 => f x y L2
@[simp] def eUn (f : Un3) (fa : E3) (Γ : G3) (L : Lh) : R3 D := (fa Γ L).bind fun x L1 => f x L1
theorem top_hold {ta tb : TE} {r : R2} {f : Op3} (hr : OpOk X.K r f)
    (ha : ∀ σ H ρ Γ L Q, Env3 X.K ρ H σ Γ → Ab X.K ρ H L → Hold X.K W σ ρ H (Rep X.K) Q (fa Γ L) → ta σ H Q) (hb : ∀ σ H ρ Γ L Q, Env3 X.K ρ H σ Γ → Ab X.K ρ H L → Hold X.K W σ ρ H (Rep X.K) Q (fb Γ L) → tb σ H Q) :
    ∀ σ H ρ Γ L Q, Env3 X.K ρ H σ Γ → Ab X.K ρ H L → Hold X.K W σ ρ H (Rep X.K) Q (eOp f fa fb Γ L) → tOp r ta tb σ H Q := by
  intro σ H ρ Γ L Q E A h
  refine ha σ H ρ Γ L _ E A (hbind h fun x L1 vx H1 ρ1 e1 r1 A1 h1 => ?_)
  refine hb σ H1 ρ1 Γ L1 _ (E.mono e1) A1 (hbind h1 fun y L2 vy H2 ρ2 e2 r2 A2 h2 => ?_)
  exact hr W σ ρ2 H2 L2 Q x y vx vy A2 (Rep.mono e2 x r1) r2 h2
theorem e3_op {op : Operator} {r : R2} {f : Op3} (ho : OpR X (binaryOp op) r) (hr : OpOk X.K r f) (ha : PE3 X W a fa) (hb : PE3 X W b fb) : PE3 X W (.BinOp a op b pos) (eOp f fa fb) := by
  obtain ⟨ta, pa, qa⟩ := ha
  obtain ⟨tb, pb, qb⟩ := hb
  exact ⟨_, pe_op ho pa pb, top_hold hr qa qb⟩
theorem e3_cmp {op : CmpOp} {r : R2} {f : Op3} (ho : OpR X (compareOp op) r) (hr : OpOk X.K r f) (ha : PE3 X W a fa) (hb : PE3 X W b fb) (hm : behindInMarks op b = false := by rfl) : PE3 X W (.Compare a [op] [b] pos) (eOp f fa fb) := by
  obtain ⟨ta, pa, qa⟩ := ha
  obtain ⟨tb, pb, qb⟩ := hb
  exact ⟨_, pe_cmpR ho pa pb hm, top_hold hr qa qb⟩
theorem e3_ix {r : R2} {f : Op3} (ho : IxR X r) (hr : OpOk X.K r f) (ha : PE3 X W a fa) (hb : PE3 X W b fb) (hs : PlainIx b := by exact fun _ _ => rfl) : PE3 X W (.Subscript a b pos) (eOp f fa fb) := by
  obtain ⟨ta, pa, qa⟩ := ha
  obtain ⟨tb, pb, qb⟩ := hb
  exact ⟨_, pe_ix ho pa pb hs, top_hold hr qa qb⟩
theorem e3_un {op : UnaryOp} {r : V → Hp → VK → Prop} {f : Un3} (ho : UnR X (unaryOp op) r) (hr : UnOk X.K r f) (ha : PE3 X W a fa) : PE3 X W (.UnaryOp op a pos) (eUn f fa) := by
  obtain ⟨ta, pa, qa⟩ := ha
  refine ⟨_, pe_un ho pa, fun σ H ρ Γ L Q E A h => ?_⟩
  refine qa σ H ρ Γ L _ E A (hbind h fun x L1 vx H1 ρ1 e1 r1 A1 h1 => ?_)
  exact hr W σ ρ1 H1 L1 Q x vx A1 r1 h1
/-! arguments, displays -/
@[simp] def aNil (_ : G3) (L : Lh) : R3 (List D) := .val [] L
@[simp] def aCons (f : E3) (g : A3) (Γ : G3) (L : Lh) : R3 (List D) := (f Γ L).bind fun x L1 => (g Γ L1).bind fun xs L2 => .val (x :: xs) L2
theorem a3_nil : PA3 X W [] aNil := ⟨_, pa_nil, fun σ H ρ Γ L Q E A h => h.mk A rfl⟩
theorem a3_cons {es : List Expr} {f : E3} {g : A3} (ha : PE3 X W a f) (hr : PA3 X W es g) (hs : starEach (a :: es) X.env = (false, eval a X.env) :: starEach es X.env := by rfl) : PA3 X W (a :: es) (aCons f g) := by
  obtain ⟨ta, pa, qa⟩ := ha
  obtain ⟨tr, pr, qr⟩ := hr
  refine ⟨_, pa_cons pa pr hs, fun σ H ρ Γ L Q E A h => ?_⟩
  refine qa σ H ρ Γ L _ E A (hbind h fun x L1 vx H1 ρ1 e1 r1 A1 h1 => ?_)
  refine qr σ H1 ρ1 Γ L1 _ (E.mono e1) A1 (hbind h1 fun xs L2 vs H2 ρ2 e2 r2 A2 h2 => ?_)
  exact h2.mk A2 ⟨vx, vs, rfl, Rep.mono e2 x r1, r2⟩
@[simp] def eTup (g : A3) (Γ : G3) (L : Lh) : R3 D := (g Γ L).bind fun xs L1 => if xs.length ≤ 1000 then .val (.tup xs) L1 else .stuck
@[simp] def eLst (g : A3) (Γ : G3) (L : Lh) : R3 D := (g Γ L).bind fun xs L1 => if xs.length ≤ 1000 then .val (.loc L1.length) (L1 ++ [.lst xs]) else .stuck
theorem e3_tup {es : List Expr} {g : A3} {k} (h : PA3 X W es g) : PE3 X W (.Tuple es k pos) (eTup g) := by
  obtain ⟨tr, pr, qr⟩ := h
  refine ⟨_, pe_tup pr, fun σ H ρ Γ L Q E A h => ?_⟩
  refine qr σ H ρ Γ L _ E A (hbind h fun xs L1 vs H1 ρ1 e1 r1 A1 h1 => ?_)
  split at h1
  · rename_i hl
    refine ⟨?_, fun p hp => h1 _ _ ρ1 (ext_new hp) ⟨p, vs, rfl, SqT.of upd_same, Reps.mono (ext_new hp) _ r1⟩ (A1.new hp)⟩
    rw [Reps.length r1]
    exact Nat.le_trans hl (by decide)
  · exact h1.elim
/-- the end of a rule that lays a list -/
theorem hold_new {K : PySem.W.Frag} {σ : L2.St} {ρ : List Addr} {H : Hp} {L : Lh} {Q : VK} {xs : List D} {vs : List V} (h : Hold K W σ ρ H (Rep K) Q (.val (.loc L.length) (L ++ [.lst xs]))) (A : Ab K ρ H L) (r : Reps K ρ H xs vs) :
    ∀ p, H p = none → Q (.ref p) (upd H p (.lst vs)) := fun p hp =>
  h _ _ (ρ ++ [p]) ((ext_new hp).trans (ext_more ρ [p] _)) ⟨p, rfl, by rw [← A.len, List.getElem?_append_right (Nat.le_refl _), Nat.sub_self]; rfl⟩ (A.alloc hp r)
theorem e3_lst {es : List Expr} {g : A3} (h : PA3 X W es g) : PE3 X W (.List es pos) (eLst g) := by
  obtain ⟨tr, pr, qr⟩ := h
  refine ⟨_, pe_lst pr, fun σ H ρ Γ L Q E A h => ?_⟩
  refine qr σ H ρ Γ L _ E A (hbind h fun xs L1 vs H1 ρ1 e1 r1 A1 h1 => ?_)
  split at h1
  · rename_i hl
    exact ⟨by rw [Reps.length r1]; exact Nat.le_trans hl (by decide), hold_new h1 A1 r1⟩
  · exact h1.elim
/-! built-ins by name -/
@[simp] def eCall (f : Fn3) (g : A3) (Γ : G3) (L : Lh) : R3 D := (g Γ L).bind f
theorem e3_blt {e : Expr} {es : List Expr} {x : Str} {id : String} {p : Pos} {r : List V → Hp → VK → Prop} {f : Fn3} {g : A3} (hc : CallR X (.builtin id) r) (hr : CaOk X.K r f) (hm : X.mg x = none) (ha : PA3 X W (e :: es) g) (hg : Gl X x := by rfl) (hv : bootBuiltins x = some (.builtin id) := by decide +kernel)
    (hn : x ≠ "__name__" := by decide) (hdb : (x == ("__debug__" : Str)) = false := by decide)
    (hs : starEach (e :: es) X.env = (false, eval e X.env) :: starEach es X.env := by rfl) (hpl : (backTo pos (starEach es X.env)).any (·.1) = false := by rfl) : PE3 X W (.Call (.Name x p) (e :: es) [] pos) (eCall f g) := by
  obtain ⟨ta, pa, qa⟩ := ha
  refine ⟨_, pe_callB hc hg hm hv pa hn hdb hs hpl, fun σ H ρ Γ L Q E A h => ?_⟩
  exact qa σ H ρ Γ L _ E A (hbind h fun xs L1 vs H1 ρ1 e1 r1 A1 h1 => hr W σ ρ1 H1 L1 Q xs vs A1 r1 h1)
theorem e3_bty {e : Expr} {es : List Expr} {x : Str} {id : String} {p : Pos} {r : List V → Hp → VK → Prop} {f : Fn3} {g : A3} (hc : CallR X (.type id) r) (hr : CaOk X.K r f) (hm : X.mg x = none) (ha : PA3 X W (e :: es) g) (hg : Gl X x := by rfl) (hv : bootBuiltins x = some (.type id) := by decide +kernel)
    (hn : x ≠ "__name__" := by decide) (hdb : (x == ("__debug__" : Str)) = false := by decide)
    (hs : starEach (e :: es) X.env = (false, eval e X.env) :: starEach es X.env := by rfl) (hpl : (backTo pos (starEach es X.env)).any (·.1) = false := by rfl) : PE3 X W (.Call (.Name x p) (e :: es) [] pos) (eCall f g) := by
  obtain ⟨ta, pa, qa⟩ := ha
  refine ⟨_, pe_callTy hc hg hm hv pa hn hdb hs hpl, fun σ H ρ Γ L Q E A h => ?_⟩
  exact qa σ H ρ Γ L _ E A (hbind h fun xs L1 vs H1 ρ1 e1 r1 A1 h1 => hr W σ ρ1 H1 L1 Q xs vs A1 r1 h1)
/-! methods of built-in types -/
def MtOk (K : PySem.W.Frag) (T : String) (r : V → List V → Hp → VK → Prop) (f : D → List D → Lh → R3 D) : Prop := ∀ W σ ρ H L (Q : VK) x xs vx vs, Ab K ρ H L → Rep K ρ H x vx → Reps K ρ H xs vs → Hold K W σ ρ H (Rep K) Q (f x xs L) → r vx vs H Q
/-- a text, or a list that stands -/
def isTy (T : String) (x : D) (L : Lh) : Bool := match x with
  | .str _ => T == "str"
  | .loc n => T == "list" && match L[n]? with
    | some (.lst _) => true
    | _ => false
  | _ => false
theorem isTy_ok {K : PySem.W.Frag} {T : String} {x : D} {v : V} {ρ : List Addr} {H : Hp} {L : Lh} (A : Ab K ρ H L) (r : Rep K ρ H x v) (h : isTy T x L = true) : tyV K T v H := by
  unfold isTy at h
  split at h
  · rename_i z
    rw [show v = .str z from r]
    have e : T = "str" := by simpa using h
    subst e
    exact rfl
  · rename_i n
    rw [Bool.and_eq_true] at h
    have e : T = "list" := by simpa using h.1
    subst e
    have h2 := h.2
    split at h2
    · rename_i xs q
      obtain ⟨a, vs, rfl, _, hv, _⟩ := A.at q r
      exact .inl ⟨rfl, _, SqL.of hv⟩
    · cases h2
  · cases h
@[simp] def eMt (T : String) (f : D → List D → Lh → R3 D) (fo : E3) (g : A3) (Γ : G3) (L : Lh) : R3 D := (fo Γ L).bind fun x L1 => if isTy T x L1 = true then (g Γ L1).bind fun xs L2 => f x xs L2 else .stuck
theorem e3_mt {T id : String} {name : Str} {o e : Expr} {es : List Expr} {apos : Pos} {r : V → List V → Hp → VK → Prop} {f : D → List D → Lh → R3 D} {fo : E3} {g : A3} (pa : PlainAttrs T) (slot : Slot T name id) (hty : typeOf (.builtin id) = pure (.type "method_descriptor")) (hm : MtR X id r) (hr : MtOk X.K T r f)
    (ho : PE3 X W o fo) (ha : PA3 X W (e :: es) g) (hbase : attributeBase o name X.env (eval o X.env) = eval o X.env := by rfl)
    (hfew : ((backTo pos (starEach (e :: es) X.env)).all (fun x => !x.1) && (backToKw pos (keywordEach [] X.env)).all (fun x => x.1.isSome)
      && decide ((e :: es).length + ([] : List Keyword).length + (if ([] : List Keyword).isEmpty then 0 else 1) < 30)) = true := by rfl)
    (hline : (apos.endLine == pos.line) = true := by rfl) (hs : starEach (e :: es) X.env = (false, eval e X.env) :: starEach es X.env := by rfl) (hpl : (backTo pos (starEach es X.env)).any (·.1) = false := by rfl) :
    PE3 X W (.Call (.Attribute o name apos) (e :: es) [] pos) (eMt T f fo g) := by
  obtain ⟨to, po, qo⟩ := ho
  obtain ⟨ta, pa', qa⟩ := ha
  refine ⟨_, pe_bm pa slot hty hm po pa' hbase hfew hline hs hpl, fun σ H ρ Γ L Q E A h => ?_⟩
  refine qo σ H ρ Γ L _ E A (hbind h fun x L1 vx H1 ρ1 e1 r1 A1 h1 => ?_)
  split at h1
  · rename_i ht
    refine ⟨isTy_ok A1 r1 ht, ?_⟩
    refine qa σ H1 ρ1 Γ L1 _ (E.mono e1) A1 (hbind h1 fun xs L2 vs H2 ρ2 e2 r2 A2 h2 => ?_)
    exact hr W σ ρ2 H2 L2 Q x xs vx vs A2 (Rep.mono e2 x r1) r2 h2
  · exact h1.elim
@[simp] def eMt0 (T : String) (f : D → List D → Lh → R3 D) (fo : E3) (Γ : G3) (L : Lh) : R3 D := (fo Γ L).bind fun x L1 => if isTy T x L1 = true then f x [] L1 else .stuck
theorem e3_mt0 {T id : String} {name : Str} {o : Expr} {apos : Pos} {r : V → List V → Hp → VK → Prop} {f : D → List D → Lh → R3 D} {fo : E3} (pa : PlainAttrs T) (slot : Slot T name id) (hty : typeOf (.builtin id) = pure (.type "method_descriptor")) (hm : MtR X id r) (hr : MtOk X.K T r f)
    (ho : PE3 X W o fo) (hbase : attributeBase o name X.env (eval o X.env) = eval o X.env := by rfl) (hline : (apos.endLine == pos.line) = true := by rfl) :
    PE3 X W (.Call (.Attribute o name apos) [] [] pos) (eMt0 T f fo) := by
  obtain ⟨to, po, qo⟩ := ho
  refine ⟨_, pe_bm0 pa slot hty hm po hbase hline, fun σ H ρ Γ L Q E A h => ?_⟩
  refine qo σ H ρ Γ L _ E A (hbind h fun x L1 vx H1 ρ1 e1 r1 A1 h1 => ?_)
  split at h1
  · rename_i ht
    exact ⟨isTy_ok A1 r1 ht, hr W σ ρ1 H1 L1 Q x [] vx [] A1 r1 rfl h1⟩
  · exact h1.elim
/-! tests -/
@[simp] def asB (x : D) (L : Lh) : R3 Bool := match x with
  | .bl c => .val c L
  | _ => .stuck
theorem asB_hold {K : PySem.W.Frag} {σ : L2.St} {ρ : List Addr} {H : Hp} {L : Lh} {Q : Bool → Hp → Prop} {d : D} {v : V} (A : Ab K ρ H L) (r : Rep K ρ H d v) (h : Hold K W σ ρ H RepB Q (asB d L)) : ∃ k, v = .bl k ∧ Q k H := by
  unfold asB at h
  split at h
  · exact ⟨_, r, h.mk A rfl⟩
  · exact h.elim
@[simp] def tE (f : E3) (Γ : G3) (L : Lh) : R3 Bool := (f Γ L).bind asB
theorem t3_val {e : Expr} {f : E3} (h : PE3 X W e f) (he : ∀ whole, isTrue e X.env whole = (do let v ← whole; standAt e.pos; holding [v] (truthy v)) := by intro _; rfl) : PT3 X W e (tE f) := by
  obtain ⟨te, p, q⟩ := h
  refine ⟨_, pt_val p he, fun σ H ρ Γ L Q E A h => ?_⟩
  exact q σ H ρ Γ L _ E A (hbind h fun x L1 vx H1 ρ1 e1 r1 A1 h1 => asB_hold A1 r1 h1)
theorem t3_cmp {op : CmpOp} {r : R2} {f : Op3} (ho : OpR X (compareOp op) r) (hr : OpOk X.K r f) (ha : PE3 X W a fa) (hb : PE3 X W b fb) (hm : behindInMarks op b = false := by rfl) : PT3 X W (.Compare a [op] [b] pos) (tE (eOp f fa fb)) := by
  obtain ⟨ta, pa, qa⟩ := ha
  obtain ⟨tb, pb, qb⟩ := hb
  refine ⟨_, pt_cmpR ho pa pb hm, fun σ H ρ Γ L Q E A h => ?_⟩
  refine top_hold hr qa qb σ H ρ Γ L _ E A ?_
  exact hbind h fun x L1 vx H1 ρ1 e1 r1 A1 h1 => asB_hold A1 r1 h1
@[simp] def tAnd3 (f g : T3) (Γ : G3) (L : Lh) : R3 Bool := (f Γ L).bind fun c L1 => if c = true then g Γ L1 else .val false L1
@[simp] def tOr3 (f g : T3) (Γ : G3) (L : Lh) : R3 Bool := (f Γ L).bind fun c L1 => if c = true then .val true L1 else g Γ L1
@[simp] def tNot3 (f : T3) (Γ : G3) (L : Lh) : R3 Bool := (f Γ L).bind fun c L1 => .val (!c) L1
variable {tA tB : T3} {rest : List Expr}
theorem w3_and1 (h : PT3 X W a tA) : PW3 X W (.BoolOp .And [a] pos) tA := by
  obtain ⟨te, p, q⟩ := h
  exact ⟨_, pw_and1 p, q⟩
theorem w3_or1 (h : PT3 X W a tA) : PW3 X W (.BoolOp .Or [a] pos) tA := by
  obtain ⟨te, p, q⟩ := h
  exact ⟨_, pw_or1 p, q⟩
theorem w3_and (h : PT3 X W a tA) (h2 : PW3 X W (.BoolOp .And (b :: rest) pos) tB) : PW3 X W (.BoolOp .And (a :: b :: rest) pos) (tAnd3 tA tB) := by
  obtain ⟨te, p, q⟩ := h
  obtain ⟨tf, p2, q2⟩ := h2
  refine ⟨_, pw_and p p2, fun σ H ρ Γ L Q E A h => ?_⟩
  refine q σ H ρ Γ L _ E A (hbind h fun x L1 vx H1 ρ1 e1 r1 A1 h1 => ?_)
  obtain rfl : x = vx := r1
  cases x with
  | true => exact q2 σ H1 ρ1 Γ L1 Q (E.mono e1) A1 h1
  | false => exact h1.mk A1 rfl
theorem w3_or (h : PT3 X W a tA) (h2 : PW3 X W (.BoolOp .Or (b :: rest) pos) tB) : PW3 X W (.BoolOp .Or (a :: b :: rest) pos) (tOr3 tA tB) := by
  obtain ⟨te, p, q⟩ := h
  obtain ⟨tf, p2, q2⟩ := h2
  refine ⟨_, pw_or p p2, fun σ H ρ Γ L Q E A h => ?_⟩
  refine q σ H ρ Γ L _ E A (hbind h fun x L1 vx H1 ρ1 e1 r1 A1 h1 => ?_)
  obtain rfl : x = vx := r1
  cases x with
  | false => exact q2 σ H1 ρ1 Γ L1 Q (E.mono e1) A1 h1
  | true => exact h1.mk A1 rfl
theorem t3_w (h : PW3 X W a tA) : PT3 X W a tA := by
  obtain ⟨te, p, q⟩ := h
  exact ⟨_, p.pt, q⟩
theorem t3_not (h : PT3 X W a tA) : PT3 X W (.UnaryOp .Not a pos) (tNot3 tA) := by
  obtain ⟨te, p, q⟩ := h
  refine ⟨_, pt_not p, fun σ H ρ Γ L Q E A h => ?_⟩
  refine q σ H ρ Γ L _ E A (hbind h fun x L1 vx H1 ρ1 e1 r1 A1 h1 => ?_)
  obtain rfl : x = vx := r1
  exact h1.mk A1 rfl
/-! and, or, not as values -/
@[simp] def eAnd (fa fb : E3) (Γ : G3) (L : Lh) : R3 D := (fa Γ L).bind fun x L1 => match x with
  | .bl true => fb Γ L1
  | .bl false => .val (.bl false) L1
  | _ => .stuck
@[simp] def eOr (fa fb : E3) (Γ : G3) (L : Lh) : R3 D := (fa Γ L).bind fun x L1 => match x with
  | .bl false => fb Γ L1
  | .bl true => .val (.bl true) L1
  | _ => .stuck
@[simp] def uNot (x : D) (L : Lh) : R3 D := match x with
  | .bl c => .val (.bl (!c)) L
  | _ => .stuck
theorem e3_one {op} (h : PE3 X W a fa) : PE3 X W (.BoolOp op [a] pos) fa := by
  obtain ⟨te, p, q⟩ := h
  exact ⟨_, pe_one p, q⟩
theorem e3_and (h : PE3 X W a fa) (h2 : PE3 X W (.BoolOp .And (b :: rest) pos) fb) : PE3 X W (.BoolOp .And (a :: b :: rest) pos) (eAnd fa fb) := by
  obtain ⟨te, p, q⟩ := h
  obtain ⟨tf, p2, q2⟩ := h2
  refine ⟨_, pe_and p p2, fun σ H ρ Γ L Q E A h => ?_⟩
  refine q σ H ρ Γ L _ E A (hbind h fun x L1 vx H1 ρ1 e1 r1 A1 h1 => ?_)
  split at h1
  · exact ⟨true, r1, q2 σ H1 ρ1 Γ L1 Q (E.mono e1) A1 h1⟩
  · exact ⟨false, r1, h1.mk A1 rfl⟩
  · exact h1.elim
theorem e3_or (h : PE3 X W a fa) (h2 : PE3 X W (.BoolOp .Or (b :: rest) pos) fb) : PE3 X W (.BoolOp .Or (a :: b :: rest) pos) (eOr fa fb) := by
  obtain ⟨te, p, q⟩ := h
  obtain ⟨tf, p2, q2⟩ := h2
  refine ⟨_, pe_or p p2, fun σ H ρ Γ L Q E A h => ?_⟩
  refine q σ H ρ Γ L _ E A (hbind h fun x L1 vx H1 ρ1 e1 r1 A1 h1 => ?_)
  split at h1
  · exact ⟨false, r1, q2 σ H1 ρ1 Γ L1 Q (E.mono e1) A1 h1⟩
  · exact ⟨true, r1, h1.mk A1 rfl⟩
  · exact h1.elim
theorem e3_not (h : PE3 X W a fa) : PE3 X W (.UnaryOp .Not a pos) (eUn uNot fa) := by
  obtain ⟨te, p, q⟩ := h
  refine ⟨_, pe_not p, fun σ H ρ Γ L Q E A h => ?_⟩
  refine q σ H ρ Γ L _ E A (hbind h fun x L1 vx H1 ρ1 e1 r1 A1 h1 => ?_)
  unfold uNot at h1
  split at h1
  · exact ⟨_, r1, h1.mk A1 rfl⟩
  · exact h1.elim
@[simp] def eIf (t : T3) (fa fb : E3) (Γ : G3) (L : Lh) : R3 D := (t Γ L).bind fun c L1 => if c = true then fa Γ L1 else fb Γ L1
theorem e3_if {c : Expr} (h : PT3 X W c tA) (ha : PE3 X W a fa) (hb : PE3 X W b fb) : PE3 X W (.IfExp c a b pos) (eIf tA fa fb) := by
  obtain ⟨te, p, q⟩ := h
  obtain ⟨ta, pa, qa⟩ := ha
  obtain ⟨tb, pb, qb⟩ := hb
  refine ⟨_, pe_ifExp p pa pb, fun σ H ρ Γ L Q E A h => ?_⟩
  refine q σ H ρ Γ L _ E A (hbind h fun x L1 vx H1 ρ1 e1 r1 A1 h1 => ?_)
  obtain rfl : x = vx := r1
  cases x with
  | true => exact qa σ H1 ρ1 Γ L1 Q (E.mono e1) A1 h1
  | false => exact qb σ H1 ρ1 Γ L1 Q (E.mono e1) A1 h1
end
open Classical
/-! ## targets -/
abbrev Tg3 := D → G3 → Lh → Out
abbrev Tgs3 := List D → G3 → Lh → Out
def Agree (is : List Nat) (σ σ' : L2.St) : Prop := σ'.length = σ.length ∧ ∀ i, i ∉ is → σ'[i]? = σ[i]?
theorem Agree.refl (is : List Nat) (σ : L2.St) : Agree is σ σ := ⟨rfl, fun _ _ => rfl⟩
theorem Agree.trans {is js : List Nat} {σ σ1 σ2 : L2.St} (a : Agree is σ σ1) (b : Agree js σ1 σ2) : Agree (is ++ js) σ σ2 :=
  ⟨b.1.trans a.1, fun i h => by
    rw [List.mem_append, not_or] at h
    rw [b.2 i h.2, a.2 i h.1]⟩
def GHold (K : PySem.W.Frag) (W : WX) (is : List Nat) (σ : L2.St) (ρ : List Addr) (H : Hp) (Q : L2.St → Hp → Prop) : Out → Prop
  | .nx Γ L => ∀ σ' H' ρ', Agree is σ σ' → Ext ρ H ρ' H' → Env3 K ρ' H' σ' Γ → Ab K ρ' H' L → Q σ' H'
  | .exn c Γ L => ∀ σ' H' ρ', Ext ρ H ρ' H' → Env3 K ρ' H' σ' Γ → Ab K ρ' H' L → W (.ref (He.ga K c)) none σ' H'
  | _ => False
def PG3 (X : Cx) (W : WX) (tg : Expr) (is : List Nat) (g : Tg3) : Prop := ∃ t, PG X tg t ∧ ∀ σ H ρ Γ L Q d v, Env3 X.K ρ H σ Γ → Ab X.K ρ H L → Rep X.K ρ H d v → GHold X.K W is σ ρ H Q (g d Γ L) → t v σ H Q
def PGs3 (X : Cx) (W : WX) (tgs : List Expr) (is : List Nat) (g : Tgs3) : Prop := ∃ t, PGs X tgs t ∧ ∀ σ H ρ Γ L Q ds vs, Env3 X.K ρ H σ Γ → Ab X.K ρ H L → Reps X.K ρ H ds vs → GHold X.K W is σ ρ H Q (g ds Γ L) → t vs σ H Q
@[simp] def R3.out {α : Type} (r : R3 α) (Γ : G3) (k : α → Lh → Out) : Out := match r with
  | .val a L => k a L
  | .exn c L => .exn c Γ L
  | .stuck => .stuck
section
variable {K : PySem.W.Frag} {W : WX} {σ σ1 : L2.St} {ρ ρ1 ρ' : List Addr} {H H1 H' : Hp} {Γ : G3} {L : Lh} {is js : List Nat} {Q : L2.St → Hp → Prop} {Dn : Ends}
theorem GHold.ext (a : Agree is σ σ1) (e : Ext ρ H ρ1 H1) : ∀ {r : Out}, GHold K W (is ++ js) σ ρ H Q r → GHold K W js σ1 ρ1 H1 Q r
  | .nx Γ L, h => fun s' H' ρ' g e2 => h s' H' ρ' (a.trans g) (e.trans e2)
  | .exn c Γ L, h => fun s' H' ρ' e2 => h s' H' ρ' (e.trans e2)
  | .ret _ _, h => h
  | .brk _ _, h => h
  | .ct _ _, h => h
  | .stuck, h => h
theorem GHold.ext0 (e : Ext ρ H ρ1 H1) {r : Out} (h : GHold K W is σ ρ H Q r) : GHold K W is σ ρ1 H1 Q r := GHold.ext (is := []) (Agree.refl _ _) e h
/-- into a statement -/
theorem sout {α β : Type} {rep : List Addr → Hp → α → β → Prop} {R : β → Hp → Prop} {r : R3 α} {k : α → Lh → Out} (E : Env3 K ρ H σ Γ) (h : SHold K W ρ H Dn (r.out Γ k))
    (n : ∀ d L1 v H1 ρ1, Ext ρ H ρ1 H1 → rep ρ1 H1 d v → Ab K ρ1 H1 L1 → SHold K W ρ1 H1 Dn (k d L1) → R v H1) : Hold K W σ ρ H rep R r := by
  cases r with
  | val d L => exact fun v H' ρ' e r a => n d L v H' ρ' e r a (SHold.ext e h)
  | exn c L => exact fun H' ρ' e a => h σ H' ρ' e (E.mono e) a
  | stuck => exact h
theorem gout {α β : Type} {rep : List Addr → Hp → α → β → Prop} {R : β → Hp → Prop} {r : R3 α} {k : α → Lh → Out} (E : Env3 K ρ H σ Γ) (h : GHold K W is σ ρ H Q (r.out Γ k))
    (n : ∀ d L1 v H1 ρ1, Ext ρ H ρ1 H1 → rep ρ1 H1 d v → Ab K ρ1 H1 L1 → GHold K W is σ ρ1 H1 Q (k d L1) → R v H1) : Hold K W σ ρ H rep R r := by
  cases r with
  | val d L => exact fun v H' ρ' e r a => n d L v H' ρ' e r a (GHold.ext0 e h)
  | exn c L => exact fun H' ρ' e a => h σ H' ρ' e (E.mono e) a
  | stuck => exact h.elim
theorem Out.next {o : Out} {Q : L2.St → Hp → Prop} (h : SHold K W ρ H Dn o) (hn : Dn.nx = Q) (E : Env3 K ρ H σ Γ) (A : Ab K ρ H L) (e : o = .nx Γ L) : Q σ H := by
  subst e hn
  exact h σ H ρ (Ext.refl _ _) E A
end
section
variable {X : Cx} {W : WX} {pos : Pos} {a b : Expr} {fa fb : E3}
@[simp] def gN (i : Nat) (d : D) (Γ : G3) (L : Lh) : Out := .nx (Γ.set i (some d)) L
theorem g3_name (i : Nat) {x : Str} (hN : X.N.Nodup) (hi : X.N[i]? = some x := by rfl) (hx : Loc X.env.scope x := by first | exact Or.inl rfl | exact Or.inr rfl) (hf : X.fn x = true ∨ X.env.scope.names.lookup x = some .local := by first | exact .inl rfl | exact .inr rfl | assumption) : PG3 X W (.Name x pos) [i] (gN i) :=
  ⟨_, pg_name hN hi hx hf, fun σ H ρ Γ L Q d v E A r h => h _ H ρ ⟨by simp, fun j hj => by
    simp at hj
    rw [List.getElem?_set_ne (Ne.symm hj)]⟩ (Ext.refl _ _) (E.set r) A⟩
@[simp] def gNil3 (ds : List D) (Γ : G3) (L : Lh) : Out := match ds with
  | [] => .nx Γ L
  | _ => .stuck
@[simp] def gCons3 (g : Tg3) (gs : Tgs3) (ds : List D) (Γ : G3) (L : Lh) : Out := match ds with
  | [] => .stuck
  | d :: r => match g d Γ L with
    | .nx Γ1 L1 => gs r Γ1 L1
    | .exn c Γ1 L1 => .exn c Γ1 L1
    | _ => .stuck
theorem gs3_nil : PGs3 X W [] [] gNil3 := ⟨_, pgs_nil, fun σ H ρ Γ L Q ds vs E A r h => by
  unfold gNil3 at h
  split at h
  · exact ⟨r, h σ H ρ (Agree.refl _ _) (Ext.refl _ _) E A⟩
  · exact h.elim⟩
theorem gs3_cons {e : Expr} {es : List Expr} {g : Tg3} {gs : Tgs3} {is js : List Nat} (h1 : PG3 X W e is g) (h2 : PGs3 X W es js gs)
    (hs : (assignEach (e :: es) X.env).map (·.2) = assign e X.env :: (assignEach es X.env).map (·.2) := by rfl) : PGs3 X W (e :: es) (is ++ js) (gCons3 g gs) := by
  obtain ⟨t, p, q⟩ := h1
  obtain ⟨u, p2, q2⟩ := h2
  refine ⟨_, pgs_cons p p2 hs, fun σ H ρ Γ L Q ds vs E A r h => ?_⟩
  cases ds with
  | nil => exact h.elim
  | cons d ds =>
    obtain ⟨v, vs', rfl, r1, r2⟩ := r
    refine ⟨v, vs', rfl, ?_⟩
    refine q σ H ρ Γ L _ d v E A r1 ?_
    unfold gCons3 at h
    simp only at h
    cases hg : g d Γ L with
    | nx Γ1 L1 =>
      rw [hg] at h
      exact fun s' H' ρ' ag e1 E1 A1 => q2 s' H' ρ' Γ1 L1 Q ds vs' E1 A1 (Reps.mono e1 _ r2) (GHold.ext ag e1 h)
    | exn c Γ1 L1 => rw [hg] at h; exact h
    | ret _ _ => rw [hg] at h; exact h.elim
    | brk _ _ => rw [hg] at h; exact h.elim
    | ct _ _ => rw [hg] at h; exact h.elim
    | stuck => rw [hg] at h; exact h.elim
def gT (n : Nat) (gs : Tgs3) (d : D) (Γ : G3) (L : Lh) : Out := match d with
  | .tup xs => if xs.length = n then gs xs Γ L else .stuck
  | _ => .stuck
@[simp] theorem gT_tup {n : Nat} {gs : Tgs3} {xs : List D} {Γ : G3} {L : Lh} : gT n gs (.tup xs) Γ L = if xs.length = n then gs xs Γ L else .stuck := rfl
theorem g3_tup {es : List Expr} {k : Nat} {gs : Tgs3} {n : Nat} {is : List Nat} (hc : X.calm = true) (h : PGs3 X W es is gs)
    (hn : (assignEach es X.env).length = n := by rfl) (hst : (assignEach es X.env).findIdx? (·.1) = none := by rfl) : PG3 X W (.Tuple es k pos) is (gT n gs) := by
  obtain ⟨t, p, q⟩ := h
  refine ⟨_, pg_tup hc p hn hst, fun σ H ρ Γ L Q d v E A r h => ?_⟩
  unfold gT at h
  split at h
  · rename_i xs
    split at h
    · rename_i hl
      obtain ⟨a, vs, rfl, hs, hr⟩ := r
      exact ⟨a, vs, rfl, hs, by rw [Reps.length hr]; exact hl, q σ H ρ Γ L Q xs vs E A hr h⟩
    · exact h.elim
  · exact h.elim
def ixD (n : Nat) (i : Int) : Option Nat := ixN n i
@[simp] def gS (fo fi : E3) (d : D) (Γ : G3) (L : Lh) : Out := (fo Γ L).out Γ fun o L1 => (fi Γ L1).out Γ fun i L2 => match o, i with
  | .loc n, .int k => match L2[n]? with
    | some (.lst xs) => match ixN xs.length k with
      | some j => .nx Γ (L2.set n (.lst (xs.set j d)))
      | none => .stuck
    | _ => .stuck
  | _, _ => .stuck
theorem g3_sub {o i : Expr} {fo fi : E3} (ho : PE3 X W o fo) (hi : PE3 X W i fi)
    (ha : ∀ v, assign (.Subscript o i pos) X.env v = (do
      let ov ← holding [v] (eval o X.env)
      let iv ← holding [v, ov] (eval i X.env)
      standAt pos
      holding [v, ov, iv] (setItem ov iv v)
      release [v, ov, iv] []) := by intro _; rfl) : PG3 X W (.Subscript o i pos) [] (gS fo fi) := by
  obtain ⟨to, po, qo⟩ := ho
  obtain ⟨ti, pi, qi⟩ := hi
  refine ⟨_, pg_sub po pi set_list ha, fun σ H ρ Γ L Q d v E A r h => ?_⟩
  refine qo σ H ρ Γ L _ E A (gout E h fun x L1 vx H1 ρ1 e1 r1 A1 h1 => ?_)
  refine qi σ H1 ρ1 Γ L1 _ (E.mono e1) A1 (gout (E.mono e1) h1 fun y L2 vy H2 ρ2 e2 r2 A2 h2 => ?_)
  split at h2
  · rename_i n k
    split at h2
    · rename_i xs hL
      split at h2
      · rename_i j hj
        obtain ⟨a, vs, rfl, ha, hv, hr⟩ := A2.at hL (Rep.mono e2 _ r1)
        refine ⟨a, vs, k, j, rfl, r2, hv, by rw [Reps.length hr]; exact hj, ?_⟩
        have ex : Ext ρ2 H2 ρ2 (upd H2 a (.lst (vs.set j v))) := ext_set hv
        exact h2 σ _ ρ2 (Agree.refl _ _) ex (E.mono ((e1.trans e2).trans ex)) (A2.setl hL ha (Reps.set (Rep.mono (e1.trans e2) d r) j hr))
      · exact h2.elim
    · exact h2.elim
  · exact h2.elim
/-! ## statements -/
variable {st : Stmt} {rest : List Stmt} {t u : S3} {e : Expr} {f : E3}
@[simp] def sNext (Γ : G3) (L : Lh) : Out := .nx Γ L
@[simp] def sSeq (t u : S3) (Γ : G3) (L : Lh) : Out := match t Γ L with
  | .nx Γ1 L1 => u Γ1 L1
  | o => o
theorem ss3_nil : PSs3 X W [] sNext := ⟨_, pss_nil, fun σ H ρ Γ L Dn E A h => h σ H ρ (Ext.refl _ _) E A⟩
theorem ss3_cons (h1 : PS3 X W st t) (h2 : PSs3 X W rest u) : PSs3 X W (st :: rest) (sSeq t u) := by
  obtain ⟨t1, p1, q1⟩ := h1
  obtain ⟨t2, p2, q2⟩ := h2
  refine ⟨_, pss_cons p1 p2, fun σ H ρ Γ L Dn E A h => ?_⟩
  refine q1 σ H ρ Γ L _ E A ?_
  unfold sSeq at h
  cases ht : t Γ L with
  | nx Γ1 L1 => rw [ht] at h; exact fun s' H' ρ' e1 E1 A1 => q2 s' H' ρ' Γ1 L1 Dn E1 A1 (SHold.ext e1 h)
  | ret _ _ => rw [ht] at h; exact h
  | brk _ _ => rw [ht] at h; exact h
  | ct _ _ => rw [ht] at h; exact h
  | exn _ _ _ => rw [ht] at h; exact h
  | stuck => rw [ht] at h; exact h.elim
theorem ss3_one (h1 : PS3 X W st t) : PSs3 X W [st] t := by
  obtain ⟨t1, p1, q1⟩ := h1
  exact ⟨_, pss_one p1, q1⟩
theorem s3_pass : PS3 X W (.Pass pos) sNext := ⟨_, ps_pass, fun σ H ρ Γ L Dn E A h => h σ H ρ (Ext.refl _ _) E A⟩
@[simp] def sCont (Γ : G3) (L : Lh) : Out := .ct Γ L
theorem s3_cont : PS3 X W (.Continue pos) sCont := ⟨_, ps_continue, fun σ H ρ Γ L Dn E A h => h σ H ρ (Ext.refl _ _) E A⟩
@[simp] def sBrk (Γ : G3) (L : Lh) : Out := .brk Γ L
theorem s3_brk : PS3 X W (.Break pos) sBrk := ⟨_, ps_break, fun σ H ρ Γ L Dn E A h => h σ H ρ (Ext.refl _ _) E A⟩
theorem s3_doc {x j pos'} : PS3 X W (.Expr (.Constant (.str x) j pos) pos') sNext := ⟨_, ps_doc, fun σ H ρ Γ L Dn E A h => h σ H ρ (Ext.refl _ _) E A⟩
@[simp] def sDrop (f : E3) (Γ : G3) (L : Lh) : Out := (f Γ L).out Γ fun _ L1 => .nx Γ L1
theorem s3_expr (he : PE3 X W e f) (hs : swapsWith e none pos.line X.env = pure false := by rfl) : PS3 X W (.Expr e pos) (sDrop f) := by
  obtain ⟨te, p, q⟩ := he
  refine ⟨_, ps_expr p hs, fun σ H ρ Γ L Dn E A h => ?_⟩
  exact q σ H ρ Γ L _ E A (sout E h fun x L1 vx H1 ρ1 e1 r1 A1 h1 => h1 σ H1 ρ1 (Ext.refl _ _) (E.mono e1) A1)
@[simp] def sRet (f : E3) (Γ : G3) (L : Lh) : Out := (f Γ L).out Γ fun d L1 => .ret d L1
theorem s3_ret (he : PE3 X W e f) : PS3 X W (.Return (some e) pos) (sRet f) := by
  obtain ⟨te, p, q⟩ := he
  refine ⟨_, ps_ret p, fun σ H ρ Γ L Dn E A h => ?_⟩
  exact q σ H ρ Γ L _ E A (sout E h fun x L1 vx H1 ρ1 e1 r1 A1 h1 => h1 vx H1 ρ1 (Ext.refl _ _) r1 A1)
@[simp] def sRetN (Γ : G3) (L : Lh) : Out := .ret .non L
theorem s3_retN : PS3 X W (.Return none pos) sRetN := ⟨_, ps_retN, fun σ H ρ Γ L Dn E A h => h .non H ρ (Ext.refl _ _) rfl A⟩
@[simp] def sIf (c : T3) (t u : S3) (Γ : G3) (L : Lh) : Out := (c Γ L).out Γ fun b L1 => if b = true then t Γ L1 else u Γ L1
theorem s3_if {c : Expr} {x y : List Stmt} {tc : T3} (hc : PT3 X W c tc) (ha : PSs3 X W x t) (hb : PSs3 X W y u) : PS3 X W (.If c x y pos) (sIf tc t u) := by
  obtain ⟨te, p, q⟩ := hc
  obtain ⟨t1, p1, q1⟩ := ha
  obtain ⟨t2, p2, q2⟩ := hb
  refine ⟨_, ps_if p p1 p2, fun σ H ρ Γ L Dn E A h => ?_⟩
  refine q σ H ρ Γ L _ E A (sout E h fun x L1 vx H1 ρ1 e1 r1 A1 h1 => ?_)
  obtain rfl : x = vx := r1
  cases x with
  | true => exact q1 σ H1 ρ1 Γ L1 Dn (E.mono e1) A1 h1
  | false => exact q2 σ H1 ρ1 Γ L1 Dn (E.mono e1) A1 h1
@[simp] def sAsg (f : E3) (g : Tg3) (Γ : G3) (L : Lh) : Out := (f Γ L).out Γ fun d L1 => match g d Γ L1 with
  | .nx Γ1 L2 => .nx Γ1 L2
  | .exn c Γ1 L2 => .exn c Γ1 L2
  | _ => .stuck
theorem ghold_of {K : PySem.W.Frag} {σ : L2.St} {ρ : List Addr} {H : Hp} {Dn : Ends} {is : List Nat} {o : Out} (h : SHold K W ρ H Dn (match o with
  | .nx Γ1 L2 => .nx Γ1 L2
  | .exn c Γ1 L2 => .exn c Γ1 L2
  | _ => .stuck)) : GHold K W is σ ρ H Dn.nx o := by
  cases o with
  | nx Γ L => exact fun s' H' ρ' _ e1 E1 A1 => h s' H' ρ' e1 E1 A1
  | exn c Γ L => exact h
  | ret _ _ => exact h
  | brk _ _ => exact h
  | ct _ _ => exact h
  | stuck => exact h
theorem s3_asg {tg : Expr} {g : Tg3} {is : List Nat} (he : PE3 X W e f) (hg : PG3 X W tg is g) (hs : swapsWithSole [tg] e pos.line X.env = pure false := by rfl) (hw : swappedStores [tg] e X.env = pure none := by rfl)
    (h1 : (assignEach [tg] X.env).map (·.2) = [assign tg X.env] := by rfl) : PS3 X W (.Assign [tg] e pos) (sAsg f g) := by
  obtain ⟨te, p, q⟩ := he
  obtain ⟨tt, pt, qt⟩ := hg
  refine ⟨_, ps_asg p pt hs hw h1, fun σ H ρ Γ L Dn E A h => ?_⟩
  refine q σ H ρ Γ L _ E A (sout E h fun x L1 vx H1 ρ1 e1 r1 A1 h1 => ?_)
  exact qt σ H1 ρ1 Γ L1 _ x vx (E.mono e1) A1 r1 (ghold_of h1)
@[simp] def sSet (i : Nat) (f : E3) (Γ : G3) (L : Lh) : Out := (f Γ L).out Γ fun d L1 => .nx (Γ.set i (some d)) L1
theorem s3_set (i : Nat) {x : Str} {pos' : Pos} (he : PE3 X W e f) (hN : X.N.Nodup) (hi : X.N[i]? = some x := by rfl) (hx : Loc X.env.scope x := by first | exact Or.inl rfl | exact Or.inr rfl) (hs : swapsWith e (some (.Name x pos')) pos.line X.env = pure false := by rfl) (hf : X.fn x = true ∨ X.env.scope.names.lookup x = some .local := by first | exact .inl rfl | exact .inr rfl | assumption) :
    PS3 X W (.Assign [.Name x pos'] e pos) (sSet i f) := by
  obtain ⟨te, p, q⟩ := he
  refine ⟨_, ps_set hN hi hx p hs hf, fun σ H ρ Γ L Dn E A h => ?_⟩
  exact q σ H ρ Γ L _ E A (sout E h fun x L1 vx H1 ρ1 e1 r1 A1 h1 => h1 _ H1 ρ1 (Ext.refl _ _) ((E.mono e1).set r1) A1)
/-- a, b = x, y of two local names -/
@[simp] def sPar (i j : Nat) (fa fb : E3) (Γ : G3) (L : Lh) : Out := (fa Γ L).out Γ fun x L1 => (fb Γ L1).out Γ fun y L2 => .nx ((Γ.set i (some x)).set j (some y)) L2
theorem s3_par (i j : Nat) {x y : Str} {px py pt : Pos} {kt k2 pt2} (hc : X.calm = true) (ha : PE3 X W a fa) (hb : PE3 X W b fb) (hN : X.N.Nodup) (hi : X.N[i]? = some x := by rfl) (hj : X.N[j]? = some y := by rfl) (hij : i ≠ j := by decide)
    (hx : X.env.scope.names.lookup x = some .local := by rfl) (hy : X.env.scope.names.lookup y = some .local := by rfl) (hab : starEach [a, b] X.env = (false, eval a X.env) :: starEach [b] X.env := by rfl) (hbb : starEach [b] X.env = (false, eval b X.env) :: starEach [] X.env := by rfl)
    (hw : swappedStores [.Tuple [.Name x px, .Name y py] kt pt] (.Tuple [a, b] k2 pt2) X.env = pure (some [x, y]) := by rfl)
    (hs : swapsWithSole [.Tuple [.Name x px, .Name y py] kt pt] (.Tuple [a, b] k2 pt2) pos.line X.env = pure false := by rfl) :
    PS3 X W (.Assign [.Tuple [.Name x px, .Name y py] kt pt] (.Tuple [a, b] k2 pt2) pos) (sPar i j fa fb) := by
  obtain ⟨ta, p, q⟩ := ha
  obtain ⟨tb, p2, q2⟩ := hb
  refine ⟨_, ps_par hc hN hi hj hij hx hy (pa_cons p (pa_cons p2 pa_nil hbb) hab) hw hs, fun σ H ρ Γ L Dn E A h => ?_⟩
  refine q σ H ρ Γ L _ E A (sout E h fun x L1 vx H1 ρ1 e1 r1 A1 h1 => ?_)
  refine q2 σ H1 ρ1 Γ L1 _ (E.mono e1) A1 (sout (E.mono e1) h1 fun y L2 vy H2 ρ2 e2 r2 A2 h2 => ?_)
  exact ⟨vx, vy, rfl, h2 _ H2 ρ2 (Ext.refl _ _) (((E.mono (e1.trans e2)).set (Rep.mono e2 x r1)).set r2) A2⟩
/-- x op= e -/
@[simp] def sAug (i : Nat) (o : Op3) (f : E3) (Γ : G3) (L : Lh) : Out := match Γ[i]? with
  | some (some x) => (f Γ L).out Γ fun y L1 => (o x y L1).out Γ fun z L2 => .nx (Γ.set i (some z)) L2
  | _ => .stuck
theorem s3_aug (i : Nat) {x : Str} {op : Operator} {ti : TIp} {o : Op3} {pos' : Pos} (ho : PIp X op ti) (hr : OpOk X.K ti o) (he : PE3 X W e f) (hN : X.N.Nodup) (hi : X.N[i]? = some x := by rfl) (hx : Loc X.env.scope x := by first | exact Or.inl rfl | exact Or.inr rfl) (hf : X.fn x = true ∨ X.env.scope.names.lookup x = some .local := by first | exact .inl rfl | exact .inr rfl | assumption) :
    PS3 X W (.AugAssign (.Name x pos') op e pos) (sAug i o f) := by
  obtain ⟨te, p, q⟩ := he
  refine ⟨_, ps_aug hN hi hx p ho hf, fun σ H ρ Γ L Dn E A h => ?_⟩
  unfold sAug at h
  split at h
  · rename_i d hd
    obtain ⟨v, e1, r1⟩ := E.2 i d hd
    refine ⟨v, e1, ?_⟩
    refine q σ H ρ Γ L _ E A (sout E h fun x L1 vx H1 ρ1 e1 r2 A1 h1 => ?_)
    refine hr W σ ρ1 H1 L1 _ d x v vx A1 (Rep.mono e1 d r1) r2 (sout (E.mono e1) h1 fun z L2 vz H2 ρ2 e2 r3 A2 h2 => ?_)
    exact h2 _ H2 ρ2 (Ext.refl _ _) ((E.mono (e1.trans e2)).set r3) A2
  · exact h.elim
/-! ## while -/
def wStep (c : T3) (b k : S3) (Γ : G3) (L : Lh) : Out := (c Γ L).out Γ fun t L1 => if t = true then (match b Γ L1 with
      | .nx Γ2 L2 => k Γ2 L2
      | .ct Γ2 L2 => k Γ2 L2
      | .brk Γ2 L2 => .nx Γ2 L2
      | o => o) else .nx Γ L1
def wN : Nat → T3 → S3 → S3
  | 0, _, _ => fun _ _ => .stuck
  | n + 1, c, b => wStep c b (wN n c b)
noncomputable def sWhile (c : T3) (b : S3) (Γ : G3) (L : Lh) : Out := if h : ∃ n, wN n c b Γ L ≠ .stuck then wN (choose h) c b Γ L else .stuck
theorem wStep_congr {c : T3} {b k k' : S3} (hk : ∀ Γ L, k Γ L ≠ .stuck → k' Γ L = k Γ L) {Γ : G3} {L : Lh} (h : wStep c b k Γ L ≠ .stuck) : wStep c b k' Γ L = wStep c b k Γ L := by
  unfold wStep at h ⊢
  cases hc : c Γ L with
  | stuck => rfl
  | exn _ _ => rfl
  | val t L1 =>
    rw [hc] at h
    simp only [R3.out] at h ⊢
    cases t with
    | false => rfl
    | true =>
      simp only [if_true] at h ⊢
      cases hb : b Γ L1 with
      | nx Γ2 L2 => rw [hb] at h; exact hk Γ2 L2 h
      | ct Γ2 L2 => rw [hb] at h; exact hk Γ2 L2 h
      | brk _ _ => rfl
      | ret _ _ => rfl
      | exn _ _ _ => rfl
      | stuck => rfl
theorem wN_succ (c : T3) (b : S3) : ∀ (n : Nat) (Γ : G3) (L : Lh), wN n c b Γ L ≠ .stuck → wN (n + 1) c b Γ L = wN n c b Γ L
  | 0, Γ, L, h => absurd rfl h
  | n + 1, Γ, L, h => wStep_congr (k := wN n c b) (k' := wN (n + 1) c b) (fun Γ L => wN_succ c b n Γ L) h
theorem wN_le {c : T3} {b : S3} {n m : Nat} {Γ : G3} {L : Lh} (h : wN n c b Γ L ≠ .stuck) (hm : n ≤ m) : wN m c b Γ L = wN n c b Γ L := by
  induction hm with
  | refl => rfl
  | step _ ih => rw [wN_succ c b _ Γ L (by rw [ih]; exact h)]; exact ih
theorem sWhile_eq {c : T3} {b : S3} {Γ : G3} {L : Lh} {o : Out} (n : Nat) (h : wN n c b Γ L = o) (ho : o ≠ .stuck) : sWhile c b Γ L = o := by
  have hn : wN n c b Γ L ≠ .stuck := by rw [h]; exact ho
  have hx : ∃ n, wN n c b Γ L ≠ .stuck := ⟨n, hn⟩
  unfold sWhile
  rw [dif_pos hx]
  have h2 := choose_spec hx
  rcases Nat.le_total n (choose hx) with q | q
  · rw [wN_le hn q]; exact h
  · rw [← wN_le h2 q]; exact h
theorem s3_while {c : Expr} {body : List Stmt} {tc : T3} {b : S3} (hp : PassesOwn (model X.prog X.w) X.A X.env X.xe) (hc : PT3 X W c tc) (hb : PSs3 X W body b) : PS3 X W (.While c body [] pos) (sWhile tc b) := by
  obtain ⟨te, p, q⟩ := hc
  obtain ⟨t1, p1, q1⟩ := hb
  refine ⟨_, ps_while hp p p1, fun σ H ρ Γ L Dn E A h => ?_⟩
  unfold sWhile at h
  split at h
  · rename_i hx
    refine ⟨fun m σ H => ∃ ρ Γ L, Env3 X.K ρ H σ Γ ∧ Ab X.K ρ H L ∧ SHold X.K W ρ H Dn (wN m tc b Γ L), ⟨_, ρ, Γ, L, E, A, h⟩, ?_⟩
    rintro m σ H ⟨ρ, Γ, L, E, A, h⟩
    cases m with
    | zero => exact h.elim
    | succ m =>
      refine q σ H ρ Γ L _ E A (sout E h fun x L1 vx H1 ρ1 e1 r1 A1 h1 => ?_)
      obtain rfl : x = vx := r1
      cases x with
      | false => exact h1 σ H1 ρ1 (Ext.refl _ _) (E.mono e1) A1
      | true =>
        rw [if_pos rfl] at h1 ⊢
        refine ⟨fun σ' H' => ∃ ρ Γ L, Env3 X.K ρ H' σ' Γ ∧ Ab X.K ρ H' L ∧ SHold X.K W ρ H' Dn (wN m tc b Γ L), fun σ' H' h => ⟨m, Nat.lt_succ_self m, h⟩, ?_⟩
        refine q1 σ H1 ρ1 Γ L1 _ (E.mono e1) A1 ?_
        cases hb : b Γ L1 with
        | nx Γ2 L2 => rw [hb] at h1; exact fun s' H' ρ' e2 E2 A2 => ⟨ρ', Γ2, L2, E2, A2, SHold.ext e2 h1⟩
        | ct Γ2 L2 => rw [hb] at h1; exact fun s' H' ρ' e2 E2 A2 => ⟨ρ', Γ2, L2, E2, A2, SHold.ext e2 h1⟩
        | brk Γ2 L2 => rw [hb] at h1; exact h1
        | ret _ _ => rw [hb] at h1; exact h1
        | exn _ _ _ => rw [hb] at h1; exact h1
        | stuck => rw [hb] at h1; exact h1.elim
  · exact h.elim
end
/-! ## what is walked -/
structure It3 where
  xs : List D
  chk : Lh → Prop
structure ItOk (K : PySem.W.Frag) (ρ1 : List Addr) (H1 : Hp) (J : L2.It) (it : It3) : Prop where
  ok : ∃ (Gd : Hp → Prop) (Y : Nat → Hp → V → Hp → Prop), Walk J it.xs.length Gd Y ∧
    (∀ ρ' H' L', Ext ρ1 H1 ρ' H' → Ab K ρ' H' L' → it.chk L' → Gd H') ∧
    (∀ i ρ' H' L' x H'', i < it.xs.length → Ext ρ1 H1 ρ' H' → Ab K ρ' H' L' → it.chk L' → Y i H' x H'' → ∃ d, it.xs[i]? = some d ∧ Ext ρ' H' ρ' H'' ∧ Rep K ρ' H'' d x ∧ Ab K ρ' H'' L')
abbrev I3 := G3 → Lh → R3 It3
def IHold (K : PySem.W.Frag) (W : WX) (σ : L2.St) (ρ : List Addr) (H : Hp) (R : L2.It → Hp → Prop) : R3 It3 → Prop
  | .val it L => ∀ J H' ρ', Ext ρ H ρ' H' → ItOk K ρ' H' J it → Ab K ρ' H' L → R J H'
  | .exn c L => ∀ H' ρ', Ext ρ H ρ' H' → Ab K ρ' H' L → W (.ref (He.ga K c)) none σ H'
  | .stuck => False
def PI3 (X : Cx) (W : WX) (tg iter : Expr) (f : I3) : Prop := ∃ wi, PI X tg iter wi ∧ ∀ σ H ρ Γ L R, Env3 X.K ρ H σ Γ → Ab X.K ρ H L → IHold X.K W σ ρ H R (f Γ L) → wi σ H R
def RepI (K : PySem.W.Frag) (ρ : List Addr) (H : Hp) (it : It3) (J : L2.It) : Prop := ItOk K ρ H J it
theorem ihold_eq {K : PySem.W.Frag} {W : WX} {σ : L2.St} {ρ : List Addr} {H : Hp} {R : L2.It → Hp → Prop} {r : R3 It3} (h : IHold K W σ ρ H R r) : Hold K W σ ρ H (RepI K) R r := by
  cases r with
  | val it L => exact h
  | exn c L => exact h
  | stuck => exact h
theorem ihold_of {K : PySem.W.Frag} {W : WX} {σ : L2.St} {ρ : List Addr} {H : Hp} {R : L2.It → Hp → Prop} {r : R3 It3} (h : Hold K W σ ρ H (RepI K) R r) : IHold K W σ ρ H R r := by
  cases r with
  | val it L => exact h
  | exn c L => exact h
  | stuck => exact h
/-! ## for -/
noncomputable def forL (chk : Lh → Prop) (g : Tg3) (b : S3) : List D → S3
  | [], Γ, L => if chk L then .nx Γ L else .stuck
  | x :: r, Γ, L => if chk L then (match g x Γ L with
      | .nx Γ1 L1 => (match b Γ1 L1 with
        | .nx Γ2 L2 => forL chk g b r Γ2 L2
        | .ct Γ2 L2 => forL chk g b r Γ2 L2
        | .brk Γ2 L2 => .nx Γ2 L2
        | o => o)
      | .exn c Γ1 L1 => .exn c Γ1 L1
      | _ => .stuck) else .stuck
@[simp] noncomputable def sFor (f : I3) (g : Tg3) (b : S3) (Γ : G3) (L : Lh) : Out := (f Γ L).out Γ fun it L1 => forL it.chk g b it.xs Γ L1
section
variable {X : Cx} {W : WX} {pos : Pos}
theorem s3_for {tg iter : Expr} {body : List Stmt} {f : I3} {g : Tg3} {is : List Nat} {b : S3} (hp : PassesOwn (model X.prog X.w) X.A X.env X.xe) (hc : X.calm = true) (hi : PI3 X W tg iter f) (hg : PG3 X W tg is g) (hb : PSs3 X W body b)
    (hs : ∀ x, foldedSetIterable iter X.env x = pure x := by intro _; rfl) : PS3 X W (.For tg iter body [] pos) (sFor f g b) := by
  obtain ⟨wi, pi, qi⟩ := hi
  obtain ⟨tt, pg, qg⟩ := hg
  obtain ⟨t1, p1, q1⟩ := hb
  refine ⟨_, ps_for hp hc pi pg p1 hs, fun σ H ρ Γ L Dn E A h => ?_⟩
  refine qi σ H ρ Γ L _ E A (ihold_of (sout E h fun it L1 J H1 ρ1 e1 r1 A1 h1 => ?_))
  obtain ⟨Gd, Y, w, hG, hY⟩ := r1.ok
  have stand : ∀ (r : List D) (Γ : G3) (L : Lh) (ρ : List Addr) (H : Hp), SHold X.K W ρ H Dn (forL it.chk g b r Γ L) → it.chk L := fun r Γ L ρ H h => by
    cases r with
    | nil =>
      rw [forL] at h
      by_cases hk : it.chk L
      · exact hk
      · rw [if_neg hk] at h; exact h.elim
    | cons x r =>
      rw [forL] at h
      by_cases hk : it.chk L
      · exact hk
      · rw [if_neg hk] at h; exact h.elim
  refine for_it w (fun i σ H => ∃ ρ Γ L, Env3 X.K ρ H σ Γ ∧ Ab X.K ρ H L ∧ Ext ρ1 H1 ρ H ∧ SHold X.K W ρ H Dn (forL it.chk g b (it.xs.drop i) Γ L)) ⟨ρ1, Γ, L1, E.mono e1, A1, Ext.refl _ _, h1⟩ ?_ ?_ ?_
  · rintro i σ H hi ⟨ρ, Γ, L, E, A, ex, h⟩
    exact hG ρ H L ex A (stand _ _ _ _ _ h)
  · rintro i x σ H H' hi ⟨ρ, Γ, L, E, A, ex, h⟩ hy
    have hk := stand _ _ _ _ _ h
    obtain ⟨d, hd, ex2, rd, A2⟩ := hY i ρ H L x H' hi ex A hk hy
    have ed : it.xs.drop i = d :: it.xs.drop (i + 1) := by
      obtain ⟨l, e⟩ := List.getElem?_eq_some_iff.mp hd
      rw [← e]; exact List.drop_eq_getElem_cons l
    rw [ed, forL, if_pos hk] at h
    refine qg σ H' ρ Γ L _ d x (E.mono ex2) A2 rd ?_
    cases hg : g d Γ L with
    | nx Γ1 L1' =>
      rw [hg] at h
      intro s' H2 ρ2 _ e2 E2 A2'
      refine q1 s' H2 ρ2 Γ1 L1' _ E2 A2' ?_
      simp only at h
      have nx : ∀ (Γ2 : G3) (L2 : Lh), SHold X.K W ρ H Dn (forL it.chk g b (it.xs.drop (i + 1)) Γ2 L2) → ∀ σ' H'' ρ', Ext ρ2 H2 ρ' H'' → Env3 X.K ρ' H'' σ' Γ2 → Ab X.K ρ' H'' L2 →
          ∃ ρ Γ L, Env3 X.K ρ H'' σ' Γ ∧ Ab X.K ρ H'' L ∧ Ext ρ1 H1 ρ H'' ∧ SHold X.K W ρ H'' Dn (forL it.chk g b (it.xs.drop (i + 1)) Γ L) :=
        fun Γ2 L2 h σ' H'' ρ' e3 E3 A3 => ⟨ρ', Γ2, L2, E3, A3, ((ex.trans ex2).trans e2).trans e3, SHold.ext ((ex2.trans e2).trans e3) h⟩
      cases hb : b Γ1 L1' with
      | nx Γ2 L2 => rw [hb] at h; exact nx Γ2 L2 h
      | ct Γ2 L2 => rw [hb] at h; exact nx Γ2 L2 h
      | brk Γ2 L2 => rw [hb] at h; exact SHold.ext (r := .nx Γ2 L2) (ex2.trans e2) h
      | ret d' L2 => rw [hb] at h; exact SHold.ext (r := .ret d' L2) (ex2.trans e2) h
      | exn c Γ2 L2 => rw [hb] at h; exact SHold.ext (r := .exn c Γ2 L2) (ex2.trans e2) h
      | stuck => rw [hb] at h; exact h.elim
    | exn c Γ1 L1' => rw [hg] at h; exact SHold.ext (r := .exn c Γ1 L1') ex2 h
    | ret _ _ => rw [hg] at h; exact h.elim
    | brk _ _ => rw [hg] at h; exact h.elim
    | ct _ _ => rw [hg] at h; exact h.elim
    | stuck => rw [hg] at h; exact h.elim
  · rintro σ H ⟨ρ, Γ, L, E, A, ex, h⟩
    rw [List.drop_length, forL] at h
    split at h
    · exact h σ H ρ (Ext.refl _ _) E A
    · exact h.elim
/-! ## comprehensions -/
@[simp] def wipe3 (Γ : G3) : List Nat → G3
  | [] => Γ
  | v :: vs => (wipe3 Γ vs).set v none
theorem Env3.wipe {K : PySem.W.Frag} {ρ : List Addr} {H : Hp} {σ : L2.St} {Γ : G3} (E : Env3 K ρ H σ Γ) : ∀ vs, Env3 K ρ H (wipe σ vs) (wipe3 Γ vs)
  | [] => E
  | v :: vs => by
    have ih := Env3.wipe E vs
    refine ⟨by unfold L2.wipe wipe3; simp [ih.1], fun i d q => ?_⟩
    unfold wipe3 at q
    by_cases hi : v = i
    · subst hi
      by_cases hv : v < (wipe3 Γ vs).length
      · rw [List.getElem?_set_self hv] at q; cases q
      · rw [List.getElem?_eq_none (by simpa using hv)] at q; cases q
    · rw [List.getElem?_set_ne hi] at q
      obtain ⟨u, a, b⟩ := ih.2 i d q
      exact ⟨u, by unfold L2.wipe; rw [List.getElem?_set_ne hi]; exact a, b⟩
theorem wipe_get {σ : L2.St} : ∀ {vs : List Nat} {i : Nat}, i < σ.length → i ∈ vs → (L2.wipe σ vs)[i]? = some none
  | v :: vs, i, hl, h => by
    unfold L2.wipe
    by_cases hi : v = i
    · subst hi
      rw [List.getElem?_set_self (by rw [L2.wipe_length]; exact hl)]
    · rw [List.getElem?_set_ne hi]
      exact wipe_get hl (by
        rcases List.mem_cons.mp h with z | z
        · exact absurd z.symm hi
        · exact z)
theorem wipe_agree {is vs : List Nat} {σ σ2 : L2.St} (a : Agree is σ σ2) (h : ∀ i ∈ is, i ∈ vs) : L2.wipe σ2 vs = L2.wipe σ vs := by
  apply List.ext_getElem?
  intro i
  by_cases hi : i ∈ vs
  · by_cases hl : i < σ.length
    · rw [wipe_get hl hi, wipe_get (by rw [a.1]; exact hl) hi]
    · rw [List.getElem?_eq_none (by rw [L2.wipe_length, a.1]; omega), List.getElem?_eq_none (by rw [L2.wipe_length]; omega)]
  · rw [L2.wipe_out hi, L2.wipe_out hi]
    exact a.2 i fun z => hi (h i z)
theorem wipe_wipe (σ : L2.St) (vs : List Nat) : L2.wipe (L2.wipe σ vs) vs = L2.wipe σ vs :=
  wipe_agree (is := vs) ⟨L2.wipe_length _ _, fun i h => L2.wipe_out h⟩ fun _ h => h
noncomputable def lcL (chk : Lh → Prop) (g : Tg3) (t : T3) (e : E3) (Γ0 : G3) (n : Nat) : List D → Lh → R3 D
  | [], L => if chk L then .val (.loc n) L else .stuck
  | x :: r, L => if chk L then (match g x Γ0 L with
      | .nx Γ1 L1 => (match t Γ1 L1 with
        | .val true L2 => (match e Γ1 L2 with
          | .val y L3 => (match L3[n]? with
            | some (.lst acc) => if acc.length ≤ 100000 then lcL chk g t e Γ0 n r (L3.set n (.lst (acc ++ [y]))) else .stuck
            | _ => .stuck)
          | _ => .stuck)
        | .val false L2 => lcL chk g t e Γ0 n r L2
        | _ => .stuck)
      | _ => .stuck) else .stuck
@[simp] noncomputable def eLc (f : I3) (g : Tg3) (t : T3) (e : E3) (own : List Nat) (Γ : G3) (L : Lh) : R3 D := (f Γ L).bind fun it L1 => lcL it.chk g t e (wipe3 Γ own) L1.length it.xs (L1 ++ [.lst []])
/-- a test that is not there -/
@[simp] def tTrue (_ : G3) (L : Lh) : R3 Bool := .val true L
def PTs3 (X : Cx) (W : WX) (es : List Expr) (f : T3) : Prop := ∃ te, PTs X es te ∧ ∀ σ H ρ Γ L Q, Env3 X.K ρ H σ Γ → Ab X.K ρ H L → Hold X.K W σ ρ H RepB Q (f Γ L) → te σ H Q
theorem ts3_nil : PTs3 X W [] tTrue := ⟨_, pts_nil, fun σ H ρ Γ L Q E A h => h.mk A rfl⟩
theorem ts3_one {c : Expr} {t : T3} (h : PT3 X W c t) : PTs3 X W [c] t := by
  obtain ⟨te, p, q⟩ := h
  exact ⟨_, pts_one p, q⟩
abbrev W0 : WX := fun _ _ _ _ => False
theorem lc_hold {wi : TI} {g : TG} {tt : TT} {te : TE} {f : I3} {g3 : Tg3} {t3 : T3} {e3 : E3} {is own : List Nat} {Xg Xt Xe : Cx} (hKg : Xg.K = X.K) (hKt : Xt.K = X.K) (hKe : Xe.K = X.K)
    (qi : ∀ σ H ρ Γ L R, Env3 X.K ρ H σ Γ → Ab X.K ρ H L → IHold X.K W σ ρ H R (f Γ L) → wi σ H R)
    (qg : ∀ σ H ρ Γ L Q d v, Env3 Xg.K ρ H σ Γ → Ab Xg.K ρ H L → Rep Xg.K ρ H d v → GHold Xg.K W0 is σ ρ H Q (g3 d Γ L) → g v σ H Q)
    (qt : ∀ σ H ρ Γ L Q, Env3 Xt.K ρ H σ Γ → Ab Xt.K ρ H L → Hold Xt.K W0 σ ρ H RepB Q (t3 Γ L) → tt σ H Q)
    (qe : ∀ σ H ρ Γ L Q, Env3 Xe.K ρ H σ Γ → Ab Xe.K ρ H L → Hold Xe.K W0 σ ρ H (Rep Xe.K) Q (e3 Γ L) → te σ H Q) (hio : ∀ i ∈ is, i ∈ own) :
    ∀ σ H ρ Γ L Q, Env3 X.K ρ H σ Γ → Ab X.K ρ H L → Hold X.K W σ ρ H (Rep X.K) Q (eLc f g3 t3 e3 own Γ L) → tLc wi g tt te own σ H Q := by
  rw [hKg] at qg; rw [hKt] at qt; rw [hKe] at qe
  intro σ H ρ Γ L Q E A h
  refine qi σ H ρ Γ L _ E A (ihold_of (hbind h fun it L1 J H1 ρ1 e1 r1 A1 h1 => ?_))
  obtain ⟨Gd, Y, w, hG, hY⟩ := r1.ok
  intro Dd hD
  have A2 : Ab X.K (ρ1 ++ [Dd]) (upd H1 Dd (.lst [])) (L1 ++ [.lst []]) := A1.alloc hD rfl
  have e2 : Ext ρ1 H1 (ρ1 ++ [Dd]) (upd H1 Dd (.lst [])) := (ext_new hD).trans (ext_more _ _ _)
  have eD : (ρ1 ++ [Dd])[L1.length]? = some Dd := by rw [← A1.len, List.getElem?_append_right (Nat.le_refl _), Nat.sub_self]; rfl
  have E2 : Env3 X.K (ρ1 ++ [Dd]) (upd H1 Dd (.lst [])) (wipe σ own) (wipe3 Γ own) := Env3.wipe (E.mono (e1.trans e2)) own
  have stand : ∀ (r : List D) (L : Lh) (ρ : List Addr) (H : Hp), Hold X.K W σ ρ H (Rep X.K) Q (lcL it.chk g3 t3 e3 (wipe3 Γ own) L1.length r L) → it.chk L := fun r L ρ H h => by
    cases r with
    | nil =>
      rw [lcL] at h
      by_cases hk : it.chk L
      · exact hk
      · rw [if_neg hk] at h; exact h.elim
    | cons x r =>
      rw [lcL] at h
      by_cases hk : it.chk L
      · exact hk
      · rw [if_neg hk] at h; exact h.elim
  refine lc_it w (fun i H => ∃ ρ L, Ab X.K ρ H L ∧ Ext (ρ1 ++ [Dd]) (upd H1 Dd (.lst [])) ρ H ∧ Hold X.K W σ ρ H (Rep X.K) Q (lcL it.chk g3 t3 e3 (wipe3 Γ own) L1.length (it.xs.drop i) L)) ⟨_, _, A2, Ext.refl _ _, Hold.ext e2 h1⟩ ?_ ?_ ?_
  · rintro i H hi ⟨ρ, L, A, ex, h⟩
    exact hG ρ H L (e2.trans ex) A (stand _ _ _ _ h)
  · rintro i x H H' hi ⟨ρ, L, A, ex, h⟩ hy
    have hk := stand _ _ _ _ h
    obtain ⟨d, hd, ex2, rd, A3⟩ := hY i ρ H L x H' hi (e2.trans ex) A hk hy
    have ed : it.xs.drop i = d :: it.xs.drop (i + 1) := by
      obtain ⟨l, e⟩ := List.getElem?_eq_some_iff.mp hd
      rw [← e]; exact List.drop_eq_getElem_cons l
    rw [ed, lcL, if_pos hk] at h
    refine qg _ H' ρ (wipe3 Γ own) L _ d x (E2.mono (ex.trans ex2)) A3 rd ?_
    cases hg : g3 d (wipe3 Γ own) L with
    | nx Γ1 L2 =>
      rw [hg] at h
      intro s' H2 ρ2 ag e3' E3 A4
      refine ⟨(wipe_agree ag hio).trans (wipe_wipe σ own), ?_⟩
      refine qt s' H2 ρ2 Γ1 L2 _ E3 A4 ?_
      simp only at h
      cases ht : t3 Γ1 L2 with
      | val bt L3 =>
        rw [ht] at h
        intro bv H3 ρ3 e4 rb A5
        obtain rfl : bt = bv := rb
        cases bt with
        | true =>
          rw [if_pos rfl]
          refine qe s' H3 ρ3 Γ1 L3 _ (E3.mono e4) A5 ?_
          simp only at h
          cases he : e3 Γ1 L3 with
          | val y L4 =>
            rw [he] at h
            intro vy H4 ρ4 e5 ry A6
            simp only at h
            split at h
            · rename_i acc hacc
              split at h
              · rename_i hlen
                have ext4 : Ext (ρ1 ++ [Dd]) (upd H1 Dd (.lst [])) ρ4 H4 := (((ex.trans ex2).trans e3').trans e4).trans e5
                obtain ⟨a', vs, hv, ha', hHv, hr⟩ := A6.at hacc (v := .ref Dd) ⟨Dd, rfl, ext4.at eD⟩
                cases hv
                refine ⟨vs, hHv, by rw [Reps.length hr]; exact Nat.lt_of_le_of_lt hlen (by decide), ρ4, _, A6.setl hacc ha' (Reps.append hr (Reps.one ry)), ext4.trans (ext_set hHv), ?_⟩
                exact Hold.ext ((((ex2.trans e3').trans e4).trans e5).trans (ext_set hHv)) h
              · exact h.elim
            · exact h.elim
          | exn _ _ => rw [he] at h; exact h.elim
          | stuck => rw [he] at h; exact h.elim
        | false =>
          rw [if_neg Bool.false_ne_true]
          exact ⟨ρ3, L3, A5, ((ex.trans ex2).trans e3').trans e4, Hold.ext ((ex2.trans e3').trans e4) h⟩
      | exn _ _ => rw [ht] at h; exact h.elim
      | stuck => rw [ht] at h; exact h.elim
    | exn c Γ1 L1' => rw [hg] at h; exact h.elim
    | ret _ _ => rw [hg] at h; exact h.elim
    | brk _ _ => rw [hg] at h; exact h.elim
    | ct _ _ => rw [hg] at h; exact h.elim
    | stuck => rw [hg] at h; exact h.elim
  · rintro H ⟨ρ, L, A, ex, h⟩
    rw [List.drop_length, lcL] at h
    split at h
    · exact h.mk A ⟨Dd, rfl, ex.at eD⟩
    · exact h.elim
def canE (K : PySem.W.Frag) (W : WX) (f : E3) : TE := fun σ H Q => ∃ ρ Γ L, Env3 K ρ H σ Γ ∧ Ab K ρ H L ∧ Hold K W σ ρ H (Rep K) Q (f Γ L)
def canT (K : PySem.W.Frag) (W : WX) (f : T3) : TT := fun σ H Q => ∃ ρ Γ L, Env3 K ρ H σ Γ ∧ Ab K ρ H L ∧ Hold K W σ ρ H RepB Q (f Γ L)
def canG (K : PySem.W.Frag) (W : WX) (is : List Nat) (g : Tg3) : TG := fun v σ H Q => ∃ ρ Γ L d, Env3 K ρ H σ Γ ∧ Ab K ρ H L ∧ Rep K ρ H d v ∧ GHold K W is σ ρ H Q (g d Γ L)
theorem PE3.can {e : Expr} {f : E3} (h : PE3 X W e f) : PE X e (canE X.K W f) := by
  obtain ⟨te, p, q⟩ := h
  exact ⟨fun pins s σ H Q I ⟨ρ, Γ, L, E, A, h⟩ => p.run pins s σ H Q I (q σ H ρ Γ L Q E A h)⟩
theorem PTs3.can {e : List Expr} {f : T3} (h : PTs3 X W e f) : PTs X e (canT X.K W f) := by
  obtain ⟨te, p, q⟩ := h
  exact ⟨fun pins s σ H Q I ⟨ρ, Γ, L, E, A, h⟩ => p.run pins s σ H Q I (q σ H ρ Γ L Q E A h)⟩
theorem PG3.can {e : Expr} {is : List Nat} {f : Tg3} (h : PG3 X W e is f) : PG X e (canG X.K W is f) := by
  obtain ⟨te, p, q⟩ := h
  exact ⟨fun pins s σ H v u Q I r ⟨ρ, Γ, L, d, E, A, rd, h⟩ => p.run pins s σ H v u Q I r (q σ H ρ Γ L Q d v E A rd h)⟩
theorem e3_lc {elt tg iter : Expr} {ifs : List Expr} {scope : Scope} {own : List (Str × Nat)} {f : I3} {g : Tg3} {is : List Nat} {t : T3} {e : E3} (hc : X.calm = true) (hN : X.N.Nodup) (hi : PI3 X W tg iter f) (ok : blkC X.N X.env.scope scope own = true)
    (hg : ∀ (s : Shared) (H : Hp) (C : Addr) (cl : List (Str × Addr)) (fp : List Addr), PG3 (X.blk s H scope (compEnvC scope cl C X.env) fp) W0 tg is g) (ht : ∀ (s : Shared) (H : Hp) (C : Addr) (cl : List (Str × Addr)) (fp : List Addr), PTs3 (X.blk s H scope (compEnvC scope cl C X.env) fp) W0 ifs t)
    (he : ∀ (s : Shared) (H : Hp) (C : Addr) (cl : List (Str × Addr)) (fp : List Addr), PE3 (X.blk s H scope (compEnvC scope cl C X.env) fp) W0 elt e) (hio : (is.all fun i => (own.map (·.2)).contains i) = true := by rfl) (hs : ∀ x, foldedSetIterable iter X.env x = pure x := by intro _; rfl) :
    PE3 X W (.ListComp elt [⟨tg, iter, ifs, 0⟩] scope pos) (eLc f g t e (own.map (·.2))) := by
  obtain ⟨wi, pi, qi⟩ := hi
  have hio' : ∀ i ∈ is, i ∈ own.map (·.2) := fun i hi => by
    have := List.all_eq_true.mp hio i hi
    simpa using this
  refine ⟨_, pe_lc (g := canG X.K W0 is g) (tt := canT X.K W0 t) (te := canE X.K W0 e) hc hN pi (blkOk_by ok) (fun s H C cl fp => (hg s H C cl fp).can) (fun s H C cl fp => (ht s H C cl fp).can) (fun s H C cl fp => (he s H C cl fp).can) hs, ?_⟩
  exact lc_hold (Xg := X) (Xt := X) (Xe := X) rfl rfl rfl qi (fun σ H ρ Γ L Q d v E A r h => ⟨ρ, Γ, L, d, E, A, r, h⟩) (fun σ H ρ Γ L Q E A h => ⟨ρ, Γ, L, E, A, h⟩) (fun σ H ρ Γ L Q E A h => ⟨ρ, Γ, L, E, A, h⟩) hio'
theorem s3_setLc (i : Nat) {y : Str} {py : Pos} {elt tg iter : Expr} {ifs : List Expr} {scope : Scope} {own : List (Str × Nat)} {spos : Pos} {f : I3} {g : Tg3} {is : List Nat} {t : T3} {e : E3} (hc : X.calm = true) (hN : X.N.Nodup) (hi : PI3 X W tg iter f) (ok : blkC X.N X.env.scope scope own = true)
    (hg : ∀ (s : Shared) (H : Hp) (C : Addr) (cl : List (Str × Addr)) (fp : List Addr), PG3 (X.blk s H scope (compEnvC scope cl C X.env) fp) W0 tg is g) (ht : ∀ (s : Shared) (H : Hp) (C : Addr) (cl : List (Str × Addr)) (fp : List Addr), PTs3 (X.blk s H scope (compEnvC scope cl C X.env) fp) W0 ifs t)
    (he : ∀ (s : Shared) (H : Hp) (C : Addr) (cl : List (Str × Addr)) (fp : List Addr), PE3 (X.blk s H scope (compEnvC scope cl C X.env) fp) W0 elt e) (hyl : X.env.scope.names.lookup y = some .local := by rfl) (hk : X.env.scope.kind = .function := by rfl) (hy : X.N[i]? = some y := by rfl)
    (hl : (py.line == pos.line) = true := by rfl) (ha : (scope.names.any fun (n, k) => n == y && (k == .local || k == .cell)) = false := by decide +kernel) (hio : (is.all fun i => (own.map (·.2)).contains i) = true := by rfl) (hs : ∀ x, foldedSetIterable iter X.env x = pure x := by intro _; rfl) :
    PS3 X W (.Assign [.Name y py] (.ListComp elt [⟨tg, iter, ifs, 0⟩] scope pos) spos) (sSet i (eLc f g t e (own.map (·.2)))) := by
  obtain ⟨wi, pi, qi⟩ := hi
  have hio' : ∀ i ∈ is, i ∈ own.map (·.2) := fun i hi => by
    have := List.all_eq_true.mp hio i hi
    simpa using this
  refine ⟨_, ps_setLc (g := canG X.K W0 is g) (tt := canT X.K W0 t) (te := canE X.K W0 e) hc hN hy hyl (sw_true hk hyl hl ha) pi (blkOk_by ok) (fun s H C cl fp => (hg s H C cl fp).can) (fun s H C cl fp => (ht s H C cl fp).can) (fun s H C cl fp => (he s H C cl fp).can) hs, fun σ H ρ Γ L Dn E A h => ?_⟩
  refine lc_hold (Xg := X) (Xt := X) (Xe := X) rfl rfl rfl qi (fun σ H ρ Γ L Q d v E A r h => ⟨ρ, Γ, L, d, E, A, r, h⟩) (fun σ H ρ Γ L Q E A h => ⟨ρ, Γ, L, E, A, h⟩) (fun σ H ρ Γ L Q E A h => ⟨ρ, Γ, L, E, A, h⟩) hio' σ H ρ Γ L _ E A ?_
  exact sout E h fun x L1 vx H1 ρ1 e1 r1 A1 h1 => h1 _ H1 ρ1 (Ext.refl _ _) ((E.mono e1).set r1) A1
/-! ## calls, promises -/
/-- a def's promise by its level-3 function -/
def emb (K : PySem.W.Frag) (f : Fn3) : Sp := fun vs H Q E => ∃ ds L ρ, Reps K ρ H ds vs ∧ Ab K ρ H L ∧ Hold K (fun c dd _ H => E c dd H) [] ρ H (Rep K) Q (f ds L)
theorem hold_W {α β : Type} {K : PySem.W.Frag} {W W' : WX} {σ σ' : L2.St} {ρ : List Addr} {H : Hp} {rep : List Addr → Hp → α → β → Prop} {Q : β → Hp → Prop} {r : R3 α} (hw : ∀ c dd H, W c dd σ H → W' c dd σ' H) (h : Hold K W σ ρ H rep Q r) : Hold K W' σ' ρ H rep Q r := by
  cases r with
  | val d L => exact h
  | exn c L => exact fun H' ρ' e a => hw _ _ _ (h H' ρ' e a)
  | stuck => exact h
theorem e3_call {e : Expr} {es : List Expr} {x : Str} {p : Pos} {k : Nat} {f : Addr} {fd : FuncData} {ps : List Str} {fn : Fn3} {g : A3} (F : FnOk X.prog X.w X.K X.mg X.base (L2.CX X.prog X.w) k f fd ps (emb X.K fn)) (hr : Room k X.A) (hm : X.mg x = some (.ref f)) (hk : PySem.W.keepIn X.K (.ref f) = true) (hb : Binds X.K fd ps [])
    (tk : Takes X W) (ha : PA3 X W (e :: es) g) (hg : Gl X x := by rfl) (hdb : (x == ("__debug__" : Str)) = false := by decide) (hs : starEach (e :: es) X.env = (false, eval e X.env) :: starEach es X.env := by rfl) (hpl : (backTo pos (starEach es X.env)).any (·.1) = false := by rfl) :
    PE3 X W (.Call (.Name x p) (e :: es) [] pos) (eCall fn g) := by
  obtain ⟨ta, pa, qa⟩ := ha
  refine ⟨_, pe_callS (E := WE W) F hr hg hm hk hb (fun σ => passAt tk σ) pa hdb hs hpl, fun σ H ρ Γ L Q E A h => ?_⟩
  refine qa σ H ρ Γ L _ E A (hbind h fun xs L1 vs H1 ρ1 e1 r1 A1 h1 => ?_)
  exact ⟨xs, L1, ρ1, r1, A1, hold_W (fun c dd H h => h) h1⟩
mutual
def closed (n : Nat) : D → Bool
  | .tup xs => closeds n xs
  | .rol xs => closeds n xs
  | .loc m => decide (m < n)
  | _ => true
def closeds (n : Nat) : List D → Bool
  | [] => true
  | x :: xs => closed n x && closeds n xs
end
/-- what a call hands back: its own lists are forgotten where the answer does not hold them -/
noncomputable def trunc (L0 : Lh) (d : D) (L : Lh) : R3 D := if L.take L0.length = L0 then (if closed L0.length d = true then .val d L0 else match d with
    | .loc m => (match L[m]? with
      | some (.lst xs) => if closeds L0.length xs = true then .val (.loc L0.length) (L0 ++ [.lst xs]) else .val d L
      | _ => .val d L)
    | _ => .val d L) else .val d L
noncomputable def truncX (L0 : Lh) (c : Str) (L : Lh) : R3 D := if L.take L0.length = L0 then .exn c L0 else .exn c L
noncomputable def run3 (k n : Nat) (t : S3) (ds : List D) (L : Lh) : R3 D := if ds.length = k then (match t (ds.map some ++ List.replicate (n - ds.length) none) L with
  | .nx _ L' => trunc L .non L'
  | .ret d L' => trunc L d L'
  | .exn c _ L' => truncX L c L'
  | _ => .stuck) else .stuck
section
variable {K : PySem.W.Frag} {ρ ρ' : List Addr} {H H' : Hp} {L L' : Lh}
mutual
theorem Rep.cut {m : Nat} : ∀ (d : D) {v : V}, Rep K ρ H d v → closed m d = true → Rep K (ρ.take m) H d v
  | .non, _, h, _ => h
  | .bl _, _, h, _ => h
  | .int _, _, h, _ => h
  | .str _, _, h, _ => h
  | .tup xs, _, ⟨a, vs, h1, h2, h3⟩, c => ⟨a, vs, h1, h2, Reps.cut xs h3 c⟩
  | .loc n, _, ⟨a, h1, h2⟩, c => ⟨a, h1, by
    have hn : n < m := by simpa [closed] using c
    rw [List.getElem?_take_of_lt hn]; exact h2⟩
  | .rol xs, _, ⟨a, vs, h1, h2, h3⟩, c => ⟨a, vs, h1, h2, Reps.cut xs h3 c⟩
  | .val _, _, h, _ => h
theorem Reps.cut {m : Nat} : ∀ (ds : List D) {vs : List V}, Reps K ρ H ds vs → closeds m ds = true → Reps K (ρ.take m) H ds vs
  | [], _, h, _ => h
  | x :: xs, _, ⟨v, r, h1, h2, h3⟩, c => by
    rw [closeds, Bool.and_eq_true] at c
    exact ⟨v, r, h1, Rep.cut x h2 c.1, Reps.cut xs h3 c.2⟩
end
mutual
theorem Rep.closed : ∀ (d : D) {v : V}, Rep K ρ H d v → closed ρ.length d = true
  | .non, _, _ => rfl
  | .bl _, _, _ => rfl
  | .int _, _, _ => rfl
  | .str _, _, _ => rfl
  | .tup xs, _, ⟨a, vs, h1, h2, h3⟩ => Reps.closed xs h3
  | .loc n, _, ⟨a, h1, h2⟩ => by
    have := (List.getElem?_eq_some_iff.mp h2).1
    simpa [closed] using this
  | .rol xs, _, ⟨a, vs, h1, h2, h3⟩ => Reps.closed xs h3
  | .val _, _, _ => rfl
theorem Reps.closed : ∀ (ds : List D) {vs : List V}, Reps K ρ H ds vs → closeds ρ.length ds = true
  | [], _, _ => rfl
  | x :: xs, _, ⟨v, r, h1, h2, h3⟩ => by
    rw [closeds, Bool.and_eq_true]
    exact ⟨Rep.closed x h2, Reps.closed xs h3⟩
end
theorem FReps.cut {m : Nat} : ∀ (fs : List (Str × D)) {gs : List (Str × V)}, FReps K ρ H fs gs → closeds m (fs.map (·.2)) = true → FReps K (ρ.take m) H fs gs
  | [], _, h, _ => h
  | x :: xs, _, ⟨v, r, h1, h2, h3⟩, c => by
    rw [List.map_cons, closeds, Bool.and_eq_true] at c
    exact ⟨v, r, h1, Rep.cut x.2 h2 c.1, FReps.cut xs h3 c.2⟩
theorem FReps.closed : ∀ (fs : List (Str × D)) {gs : List (Str × V)}, FReps K ρ H fs gs → closeds ρ.length (fs.map (·.2)) = true
  | [], _, _ => rfl
  | x :: xs, _, ⟨v, r, h1, h2, h3⟩ => by
    rw [List.map_cons, closeds, Bool.and_eq_true]
    exact ⟨Rep.closed x.2 h2, FReps.closed xs h3⟩
/-- the cells that stood ahead of a call stand behind it -/
theorem Ab.back (A : Ab K ρ H L) (e : Ext ρ H ρ' H') (A' : Ab K ρ' H' L') (h : L'.take L.length = L) : Ab K ρ H' L := by
  obtain ⟨t, rfl⟩ := e.pre
  have et : (ρ ++ t).take L.length = ρ := by rw [← A.len]; simp
  refine ⟨A.len, A.nd, fun n c q => ?_⟩
  have hn : n < L.length := (List.getElem?_eq_some_iff.mp q).1
  obtain ⟨a0, p1, c0⟩ := A.cell n c q
  have q' : L'[n]? = some c := by
    rw [← h, List.getElem?_take_of_lt hn] at q; exact q
  obtain ⟨a, p2, c1⟩ := A'.cell n c q'
  have p3 : (ρ ++ t)[n]? = some a0 := e.at p1
  obtain rfl : a = a0 := Option.some.inj (p2.symm.trans p3)
  refine ⟨a, p1, ?_⟩
  cases c with
  | lst xs =>
    obtain ⟨vs0, _, r0⟩ := c0
    obtain ⟨vs, hv, r⟩ := c1
    refine ⟨vs, hv, ?_⟩
    have := Reps.cut (m := L.length) xs r (by rw [← A.len]; exact Reps.closed xs r0)
    rw [et] at this; exact this
  | ins C fs =>
    obtain ⟨_, _, _, _, r0⟩ := c0
    obtain ⟨dx, gs, hv, ho, r⟩ := c1
    refine ⟨dx, gs, hv, ho, ?_⟩
    have := FReps.cut (m := L.length) fs r (by rw [← A.len]; exact FReps.closed fs r0)
    rw [et] at this; exact this
theorem trunc_hold {W : WX} {σ : L2.St} {Q : VK} {d : D} (A : Ab K ρ H L) (h : Hold K W σ ρ H (Rep K) Q (trunc L d L')) : Hold K W σ ρ H (Rep K) Q (.val d L') := by
  unfold trunc at h
  by_cases h1 : L'.take L.length = L
  · rw [if_pos h1] at h
    by_cases h2 : closed L.length d = true
    · rw [if_pos h2] at h
      intro v H' ρ' e r A'
      obtain ⟨t, rfl⟩ := id e.pre
      have et : (ρ ++ t).take L.length = ρ := by rw [← A.len]; simp
      have r' := Rep.cut (m := L.length) d r h2
      rw [et] at r'
      exact h v H' ρ ⟨e.tup, e.frz, [], (List.append_nil ρ).symm⟩ r' (A.back e A' h1)
    · rw [if_neg h2] at h
      cases d with
      | loc m =>
        simp only at h
        cases hm : L'[m]? with
        | none => rw [hm] at h; exact h
        | some c =>
          cases c with
          | ins C fs => rw [hm] at h; exact h
          | lst xs =>
            rw [hm] at h
            simp only at h
            by_cases h3 : closeds L.length xs = true
            · rw [if_pos h3] at h
              intro v H' ρ' e r A'
              obtain ⟨a, vs, rfl, ha, hv, hr⟩ := A'.at hm r
              obtain ⟨t, rfl⟩ := id e.pre
              have et : (ρ ++ t).take L.length = ρ := by rw [← A.len]; simp
              have hr' := Reps.cut (m := L.length) xs hr h3
              rw [et] at hr'
              have B := A.back e A' h1
              have hml : ¬ m < L.length := fun z => h2 (by simpa [closed] using z)
              have nin : a ∉ ρ := fun hin => by
                obtain ⟨n, hn⟩ := List.getElem?_of_mem hin
                have hl : n < L.length := by rw [← A.len]; exact (List.getElem?_eq_some_iff.mp hn).1
                exact hml (nodup_at A' ha (e.at hn) ▸ hl)
              have ex : Ext ρ H (ρ ++ [a]) H' := ⟨e.tup, e.frz, [a], rfl⟩
              have el : (ρ ++ [a])[L.length]? = some a := by rw [← A.len, List.getElem?_append_right (Nat.le_refl _), Nat.sub_self]; rfl
              refine h (.ref a) H' (ρ ++ [a]) ex ⟨a, rfl, el⟩ ⟨by rw [List.length_append, List.length_append, A.len]; rfl, ?_, fun n c q => ?_⟩
              · rw [List.nodup_append]
                exact ⟨A.nd, by simp, fun x hx y hy z => nin (by rw [List.mem_singleton.mp hy] at z; exact z ▸ hx)⟩
              · by_cases hn : n < L.length
                · rw [List.getElem?_append_left hn] at q
                  obtain ⟨b, q1, q2⟩ := B.cell n c q
                  have e2 : Ext ρ H' (ρ ++ [a]) H' := ext_more ρ [a] H'
                  exact ⟨b, e2.at q1, q2.keep e2 (fun _ z => z) fun _ z => z⟩
                · have hn' : n = L.length := by
                    have := (List.getElem?_eq_some_iff.mp q).1
                    rw [List.length_append] at this
                    simp at this; omega
                  subst hn'
                  rw [List.getElem?_append_right (Nat.le_refl _), Nat.sub_self] at q
                  simp at q; subst q
                  exact ⟨a, el, vs, hv, Reps.mono (ext_more ρ [a] H') _ hr'⟩
            · rw [if_neg h3] at h; exact h
      | _ => exact h
  · rw [if_neg h1] at h; exact h
theorem truncX_hold {W : WX} {σ : L2.St} {Q : VK} {c : Str} (A : Ab K ρ H L) (h : Hold K W σ ρ H (Rep K) Q (truncX L c L')) : Hold K W σ ρ H (Rep K) Q (.exn c L') := by
  unfold truncX at h
  by_cases h1 : L'.take L.length = L
  · rw [if_pos h1] at h
    intro H' ρ' e A'
    exact h H' ρ ⟨e.tup, e.frz, [], (List.append_nil ρ).symm⟩ (A.back e A' h1)
  · rw [if_neg h1] at h; exact h
end
theorem env_start {K : PySem.W.Frag} {ρ : List Addr} {H : Hp} {N : List Str} {ds : List D} {vs : List V} (r : Reps K ρ H ds vs) (n : Nat) (hn : N.length = n) : Env3 K ρ H (L2.start N vs) (ds.map some ++ List.replicate (n - ds.length) none) := by
  have hl := Reps.length r
  refine ⟨by unfold L2.start; simp [hl, hn], fun i d q => ?_⟩
  by_cases hi : i < ds.length
  · rw [List.getElem?_append_left (by simpa using hi), List.getElem?_map] at q
    cases hd : ds[i]? with
    | none => rw [hd] at q; cases q
    | some d' =>
      rw [hd] at q
      have e : d' = d := by simpa using q
      subst e
      obtain ⟨v, e1, e2⟩ := r.get hd
      refine ⟨v, ?_, e2⟩
      unfold L2.start
      rw [List.getElem?_append_left (by simp; omega), List.getElem?_map, e1]; rfl
  · rw [List.getElem?_append_right (by simpa using Nat.le_of_not_lt hi)] at q
    rw [List.getElem?_replicate] at q
    split at q <;> cases q
/-- A DEF keeps its level-3 promise -/
theorem fn3 {P : Program} {w : World} {K : PySem.W.Frag} {mg : Str → Option Value} {base : Heap} {x qual : Str} {params : Arguments} {body : List Stmt} {scope : Scope} {dvs : List V} {kws : List (Str × V)} {f : Addr} {fd : FuncData} {N ps : List Str} {k n m : Nat} {t : S3}
    (F : FunD K x qual params body scope dvs kws f fd) (S : FnScope N ps scope) (hps : ps.length = m) (hN : N.length = n)
    (hbody : ∀ (X : Cx), X.prog = P → X.w = w → X.K = K → X.mg = mg → X.base = base → X.N = N → X.env.scope = scope → X.calm = true → Room k X.A → (∀ x, X.fn x = true) → (∀ E : XK, True) → ∀ W, Takes X W → PassesOwn (model X.prog X.w) X.A X.env X.xe → PSs3 X W body t) :
    FnOk P w K mg base (L2.CX P w) (k + 1) f fd ps (emb K (run3 m n t)) := by
  refine F.ok S (fun vs H Q E h => ?_) (fun cdv A outer s H vs Q E hr h => ?_)
  · obtain ⟨ds, L, ρ, r, _, h⟩ := h
    unfold run3 at h
    split at h
    · rename_i hl
      rw [hps, Reps.length r]; exact hl
    · exact h.elim
  · obtain ⟨ds, L, ρ, r, Ab0, h⟩ := h
    have hW : Takes (cxOf (L2.CX P w) P w K mg base N qual scope f cdv A outer s H E) (fun c dd _ H => E c dd H) := takes_of rfl rfl rfl rfl
    obtain ⟨ts, p, q⟩ := hbody (cxOf (L2.CX P w) P w K mg base N qual scope f cdv A outer s H E) rfl rfl rfl rfl rfl rfl rfl rfl hr (fun _ => rfl) (fun _ => trivial) _ hW (passes_of (K := fun e s'' => L2.CX P w outer H s E e s'') rfl)
    refine ⟨ts, p, q _ H ρ _ L _ (env_start r n hN) Ab0 ?_⟩
    unfold run3 at h
    split at h
    · cases ht : t (ds.map some ++ List.replicate (n - ds.length) none) L with
      | nx Γ L' =>
        rw [ht] at h
        have h := trunc_hold Ab0 h
        exact fun σ' H' ρ' e E' A' => h .non H' ρ' e rfl A'
      | ret d L' =>
        rw [ht] at h
        exact trunc_hold Ab0 h
      | exn c Γ L' =>
        rw [ht] at h
        have h := truncX_hold Ab0 h
        exact fun σ' H' ρ' e E' A' => h H' ρ' e A'
      | brk _ _ => rw [ht] at h; exact h.elim
      | ct _ _ => rw [ht] at h; exact h.elim
      | stuck => rw [ht] at h; exact h.elim
    · exact h.elim
end
/-! ## data -/
def opts {α : Type} (f : D → Option α) : List D → Option (List α)
  | [] => some []
  | x :: r => match f x, opts f r with
    | some a, some b => some (a :: b)
    | _, _ => none
def dat : Nat → Lh → D → Option PyData
  | 0, _, _ => none
  | k + 1, L, d => match d with
    | .non => some .none
    | .bl b => some (.bool b)
    | .int i => some (.int i)
    | .str x => some (.str x)
    | .tup xs => (opts (dat k L) xs).map .tuple
    | .rol xs => (opts (dat k L) xs).map .list
    | .loc n => (match L[n]? with
      | some (.lst xs) => (opts (dat k L) xs).map .list
      | _ => none)
    | .val _ => none
@[simp] theorem dat_non {k : Nat} {L : Lh} : dat (k + 1) L .non = some .none := rfl
@[simp] theorem dat_bl {k : Nat} {L : Lh} {b : Bool} : dat (k + 1) L (.bl b) = some (.bool b) := rfl
@[simp] theorem dat_int {k : Nat} {L : Lh} {i : Int} : dat (k + 1) L (.int i) = some (.int i) := rfl
@[simp] theorem dat_str {k : Nat} {L : Lh} {x : Str} : dat (k + 1) L (.str x) = some (.str x) := rfl
@[simp] theorem dat_tup {k : Nat} {L : Lh} {xs : List D} : dat (k + 1) L (.tup xs) = (opts (dat k L) xs).map .tuple := rfl
theorem dat_loc {k : Nat} {L : Lh} {n : Nat} {xs : List D} (h : L[n]? = some (.lst xs)) : dat (k + 1) L (.loc n) = (opts (dat k L) xs).map .list := by simp only [dat, h]
@[simp] theorem opts_nil {α : Type} {f : D → Option α} : opts f [] = some [] := rfl
theorem opts_cons {α : Type} {f : D → Option α} {x : D} {r : List D} {a : α} {b : List α} (h1 : f x = some a) (h2 : opts f r = some b) : opts f (x :: r) = some (a :: b) := by simp only [opts, h1, h2]
@[simp] theorem eqv_int (a b : Int) : PyData.eqv (.int a) (.int b) = decide (a = b) := by show (a == b) = _; rw [Bool.beq_eq_decide_eq]
@[simp] theorem eqv_none : PyData.eqv .none .none = true := rfl
@[simp] theorem eqv_bool (a b : Bool) : PyData.eqv (.bool a) (.bool b) = (a == b) := rfl
@[simp] theorem eqv_str (a b : Str) : PyData.eqv (.str a) (.str b) = (a == b) := rfl
@[simp] theorem eqv_tuple (a b : List PyData) : PyData.eqv (.tuple a) (.tuple b) = PyData.eqvAll a b := by simp only [PyData.eqv]
@[simp] theorem eqv_list (a b : List PyData) : PyData.eqv (.list a) (.list b) = PyData.eqvAll a b := by simp only [PyData.eqv]
@[simp] theorem eqv_cons (x y : PyData) (a b : List PyData) : PyData.eqvAll (x :: a) (y :: b) = (PyData.eqv x y && PyData.eqvAll a b) := by simp only [PyData.eqvAll]
@[simp] theorem eqv_nil : PyData.eqvAll [] [] = true := by simp only [PyData.eqvAll]
@[simp] theorem eqv_nc (x : PyData) (a : List PyData) : PyData.eqvAll [] (x :: a) = false := by simp only [PyData.eqvAll]
@[simp] theorem eqv_cn (x : PyData) (a : List PyData) : PyData.eqvAll (x :: a) [] = false := by simp only [PyData.eqvAll]
@[simp] theorem shaped_int (a : Int) : SeqAt.shaped (.int a) = true := rfl
@[simp] theorem shaped_none : SeqAt.shaped .none = true := rfl
@[simp] theorem shaped_bool (a : Bool) : SeqAt.shaped (.bool a) = true := rfl
section
variable {K : PySem.W.Frag} {ρ : List Addr} {H : Hp} {L : Lh}
theorem opts_dp {f : D → Option PyData} (hf : ∀ d v p, f d = some p → Rep K ρ H d v → Dp K H v p) : ∀ (ds : List D) (vs : List V) (ps : List PyData), opts f ds = some ps → Reps K ρ H ds vs → DpAll K H vs ps
  | [], vs, ps, h, r => by
    rw [show vs = [] from r]
    rw [show ps = [] from by simpa [opts] using h.symm]
    exact .nil
  | x :: xs, vs, ps, h, ⟨v, r, h1, h2, h3⟩ => by
    subst h1
    unfold opts at h
    split at h
    · rename_i a b q1 q2
      cases h
      exact .cons (hf x v a q1 h2) (opts_dp hf xs r b q2 h3)
    · cases h
theorem dat_dp (A : Ab K ρ H L) : ∀ (k : Nat) (d : D) (v : V) (p : PyData), dat k L d = some p → Rep K ρ H d v → Dp K H v p
  | 0, _, _, _, h, _ => by cases h
  | k + 1, d, v, p, h, r => by
    have ih := dat_dp A k
    cases d with
    | non => cases h; rw [show v = .non from r]; exact .non
    | bl b => cases h; rw [show v = .bl b from r]; exact .bl b
    | int i => cases h; rw [show v = .int i from r]; exact .int i
    | str x => cases h; rw [show v = .str x from r]; exact .str x
    | tup xs =>
      obtain ⟨a, vs, rfl, h1, h2⟩ := r
      simp only [dat, Option.map_eq_some_iff] at h
      obtain ⟨ps, q, rfl⟩ := h
      exact .tup h1 (opts_dp ih xs vs ps q h2)
    | rol xs =>
      obtain ⟨a, vs, rfl, h1, h2⟩ := r
      simp only [dat, Option.map_eq_some_iff] at h
      obtain ⟨ps, q, rfl⟩ := h
      exact .lst h1.sq (opts_dp ih xs vs ps q h2)
    | loc n =>
      simp only [dat] at h
      split at h
      · rename_i xs hx
        obtain ⟨a, vs, rfl, _, hv, hr⟩ := A.at hx r
        rw [Option.map_eq_some_iff] at h
        obtain ⟨ps, q, rfl⟩ := h
        exact .lst (SqL.of hv) (opts_dp ih xs vs ps q hr)
      · cases h
    | val u => cases h
def intsD : List D → Option (List Int) := opts fun d => match d with
  | .int i => some i
  | _ => none
def blsD : List D → Option (List Bool) := opts fun d => match d with
  | .bl i => some i
  | _ => none
def strsD : List D → Option (List Str) := opts fun d => match d with
  | .str i => some i
  | _ => none
theorem opts_map {α : Type} {f : D → Option α} {g : α → V} (hf : ∀ d v p, f d = some p → Rep K ρ H d v → v = g p) : ∀ (ds : List D) (vs : List V) (ps : List α), opts f ds = some ps → Reps K ρ H ds vs → vs = ps.map g
  | [], vs, ps, h, r => by
    rw [show vs = [] from r]
    rw [show ps = [] from by simpa [opts] using h.symm]
    rfl
  | x :: xs, vs, ps, h, ⟨v, r, h1, h2, h3⟩ => by
    subst h1
    unfold opts at h
    split at h
    · rename_i a b q1 q2
      cases h
      rw [List.map_cons, ← opts_map hf xs r b q2 h3, hf x v a q1 h2]
    · cases h
theorem ints_v {ds : List D} {vs : List V} {ps : List Int} (h : intsD ds = some ps) (r : Reps K ρ H ds vs) : vs = ps.map V.int :=
  opts_map (g := V.int) (fun d v p h r => by split at h <;> cases h; exact r) ds vs ps h r
theorem bls_v {ds : List D} {vs : List V} {ps : List Bool} (h : blsD ds = some ps) (r : Reps K ρ H ds vs) : vs = ps.map V.bl :=
  opts_map (g := V.bl) (fun d v p h r => by split at h <;> cases h; exact r) ds vs ps h r
theorem strs_v {ds : List D} {vs : List V} {ps : List Str} (h : strsD ds = some ps) (r : Reps K ρ H ds vs) : vs = ps.map V.str :=
  opts_map (g := V.str) (fun d v p h r => by split at h <;> cases h; exact r) ds vs ps h r
/-- the items of a list -/
def items (x : D) (L : Lh) : Option (List D) := match x with
  | .rol xs => some xs
  | .loc n => (match L[n]? with
    | some (.lst xs) => some xs
    | _ => none)
  | _ => none
@[simp] theorem items_rol {xs : List D} {L : Lh} : items (.rol xs) L = some xs := rfl
theorem items_loc {n : Nat} {L : Lh} {xs : List D} (h : L[n]? = some (.lst xs)) : items (.loc n) L = some xs := by unfold items; simp only [h]
theorem items_sq (A : Ab K ρ H L) {x : D} {v : V} {xs : List D} (h : items x L = some xs) (r : Rep K ρ H x v) : ∃ a vs, v = .ref a ∧ SqL K H a vs ∧ Reps K ρ H xs vs := by
  unfold items at h
  split at h
  · cases h
    obtain ⟨a, vs, rfl, h1, h2⟩ := r
    exact ⟨a, vs, rfl, h1.sq, h2⟩
  · split at h
    · rename_i xs hx
      cases h
      obtain ⟨a, vs, rfl, _, hv, hr⟩ := A.at hx r
      exact ⟨a, vs, rfl, SqL.of hv, hr⟩
    · cases h
  · cases h
/-- items of a list or a tuple -/
def itemsT (x : D) (L : Lh) : Option (List D) := match x with
  | .tup xs => some xs
  | x => items x L
@[simp] theorem itemsT_tup {xs : List D} {L : Lh} : itemsT (.tup xs) L = some xs := rfl
@[simp] theorem itemsT_rol {xs : List D} {L : Lh} : itemsT (.rol xs) L = some xs := rfl
@[simp] theorem itemsT_loc {n : Nat} {L : Lh} : itemsT (.loc n) L = items (.loc n) L := rfl
theorem itemsT_sq (A : Ab K ρ H L) {x : D} {v : V} {xs : List D} (h : itemsT x L = some xs) (r : Rep K ρ H x v) : ∃ a vs, v = .ref a ∧ (SqL K H a vs ∨ SqT K H a vs) ∧ Reps K ρ H xs vs := by
  unfold itemsT at h
  split at h
  · cases h
    obtain ⟨a, vs, rfl, h1, h2⟩ := r
    exact ⟨a, vs, rfl, .inr h1, h2⟩
  · obtain ⟨a, vs, e, h1, h2⟩ := items_sq A h r
    exact ⟨a, vs, e, .inl h1, h2⟩
theorem size_le {n : Nat} (h : n ≤ 100000) : n ≤ sizeLine := Nat.le_trans h (by decide)
theorem size_lt {n : Nat} (h : n ≤ 100000) : n < sizeLine := Nat.lt_of_le_of_lt h (by decide)
end
/-! ## operators -/
@[simp] noncomputable def fInt (C : Int → Int → Prop) (g : Int → Int → D) (x : D) (y : D) (L : Lh) : R3 D := match x, y with
  | .int i, .int j => if C i j then .val (g i j) L else .stuck
  | _, _ => .stuck
theorem ok_int {K : PySem.W.Frag} {C : Int → Int → Prop} {g : Int → Int → V} {g3 : Int → Int → D} (hg : ∀ ρ H i j, Rep K ρ H (g3 i j) (g i j)) : OpOk K (rI C g) (fInt C g3) := by
  intro W σ ρ H L Q x y vx vy A rx ry h
  unfold fInt at h
  split at h
  · rename_i i j
    split at h
    · rename_i hc
      exact ⟨i, j, rx, ry, hc, h.mk A (hg _ _ _ _)⟩
    · exact h.elim
  · exact h.elim
@[simp] def fInt0 (g : Int → Int → D) (x : D) (y : D) (L : Lh) : R3 D := match x, y with
  | .int i, .int j => .val (g i j) L
  | _, _ => .stuck
theorem ok_int0 {K : PySem.W.Frag} {g : Int → Int → V} {g3 : Int → Int → D} (hg : ∀ ρ H i j, Rep K ρ H (g3 i j) (g i j)) : OpOk K (rI0 g) (fInt0 g3) := by
  intro W σ ρ H L Q x y vx vy A rx ry h
  unfold fInt0 at h
  split at h
  · rename_i i j
    exact ⟨i, j, rx, ry, h.mk A (hg _ _ _ _)⟩
  · exact h.elim
noncomputable def fAdd (x : D) (y : D) (L : Lh) : R3 D := match x, y with
  | .int i, .int j => .val (.int (i + j)) L
  | .str a, .str b => if a.length + b.length ≤ 100000 then .val (.str (a ++ b)) L else .stuck
  | .loc n, .loc m => (match L[n]?, L[m]? with
    | some (.lst xs), some (.lst ys) => if xs.length + ys.length ≤ 100000 then .val (.loc L.length) (L ++ [.lst (xs ++ ys)]) else .stuck
    | _, _ => .stuck)
  | _, _ => .stuck
abbrev rAddS : R2 := fun x y H Q => ∃ i j, x = .str i ∧ y = .str j ∧ i.length + j.length ≤ sizeLine ∧ Q (.str (i ++ j)) H
abbrev rAdd3 : R2 := fun x y H Q => rI0 (fun i j => .int (i + j)) x y H Q ∨ (fun x y H Q => rAddS x y H Q ∨ rCat x y H Q) x y H Q
theorem op_add3 {X : Cx} : OpR X (binaryOp .Add) rAdd3 := op_add.or (op_add_str.or op_cat)
theorem ok_add {K : PySem.W.Frag} : OpOk K rAdd3 fAdd := by
  intro W σ ρ H L Q x y vx vy A rx ry h
  unfold fAdd at h
  split at h
  · rename_i i j
    exact .inl ⟨i, j, rx, ry, h.mk A rfl⟩
  · rename_i i j
    split at h
    · rename_i hl
      exact .inr (.inl ⟨i, j, rx, ry, size_le hl, h.mk A rfl⟩)
    · exact h.elim
  · split at h
    · rename_i xs ys h1 h2
      split at h
      · rename_i hl
        obtain ⟨a, vs, rfl, _, hv, hr⟩ := A.at h1 rx
        obtain ⟨b, us, rfl, _, hu, hs⟩ := A.at h2 ry
        exact .inr (.inr ⟨a, b, vs, us, rfl, rfl, hv, hu, by rw [Reps.length hr, Reps.length hs]; exact size_le hl, hold_new h A (Reps.append hr hs)⟩)
      · exact h.elim
    · exact h.elim
  · exact h.elim
@[simp] def fSub (x y : D) (L : Lh) : R3 D := (fInt0 fun i j => .int (i - j)) x y L
theorem ok_sub {K : PySem.W.Frag} : OpOk K (rI0 fun i j => .int (i - j)) fSub := ok_int0 fun _ _ _ _ => rfl
noncomputable def fMul (x : D) (y : D) (L : Lh) : R3 D := match x, y with
  | .int i, .int j => if CMulX i j then .val (.int (i * j)) L else .stuck
  | .loc n, .int k => (match L[n]? with
    | some (.lst xs) => if k ≤ 1000 ∧ -1000 ≤ k ∧ xs.length * k.toNat ≤ 100000 then .val (.loc L.length) (L ++ [.lst (List.replicate k.toNat xs).flatten]) else .stuck
    | _ => .stuck)
  | _, _ => .stuck
abbrev rMul3 : R2 := fun x y H Q => rI CMulX (fun i j => .int (i * j)) x y H Q ∨ rRep x y H Q
theorem op_mul3 {X : Cx} : OpR X (binaryOp .Mult) rMul3 := op_mulX.or op_rep
section
variable {K : PySem.W.Frag} {ρ : List Addr} {H : Hp}
theorem Reps.repl {ds : List D} {vs : List V} (r : Reps K ρ H ds vs) : ∀ k : Nat, Reps K ρ H (List.replicate k ds).flatten (List.replicate k vs).flatten
  | 0 => rfl
  | k + 1 => by rw [List.replicate_succ, List.replicate_succ, List.flatten_cons, List.flatten_cons]; exact Reps.append r (Reps.repl r k)
end
theorem ok_mul {K : PySem.W.Frag} : OpOk K rMul3 fMul := by
  intro W σ ρ H L Q x y vx vy A rx ry h
  unfold fMul at h
  split at h
  · rename_i i j
    split at h
    · rename_i hl
      exact .inl ⟨i, j, rx, ry, hl, h.mk A rfl⟩
    · exact h.elim
  · split at h
    · rename_i n k _ xs h1
      split at h
      · rename_i hl
        obtain ⟨a, vs, rfl, _, hv, hr⟩ := A.at h1 rx
        exact .inr ⟨a, k, vs, rfl, ry, hv, by omega, by omega, by rw [Reps.length hr]; exact size_le hl.2.2, hold_new h A (Reps.repl hr _)⟩
      · exact h.elim
    · exact h.elim
  · exact h.elim
def CDivA (i j : Int) : Prop := j ≠ 0
@[simp] noncomputable def fFdiv (x y : D) (L : Lh) : R3 D := (fInt (fun _ j => j ≠ 0) fun i j => .int (i.fdiv j)) x y L
theorem ok_fdiv {K : PySem.W.Frag} : OpOk K (rI (fun _ j => j ≠ 0) fun i j => .int (i.fdiv j)) fFdiv := ok_int fun _ _ _ _ => rfl
@[simp] noncomputable def fMod (x y : D) (L : Lh) : R3 D := (fInt (fun _ j => j ≠ 0) fun i j => .int (i.fmod j)) x y L
theorem ok_mod {K : PySem.W.Frag} : OpOk K (rI (fun _ j => j ≠ 0) fun i j => .int (i.fmod j)) fMod := ok_int fun _ _ _ _ => rfl
@[simp] noncomputable def fPow (x y : D) (L : Lh) : R3 D := (fInt CPow fun i j => .int (i ^ j.toNat)) x y L
theorem ok_pow {K : PySem.W.Frag} : OpOk K (rI CPow fun i j => .int (i ^ j.toNat)) fPow := ok_int fun _ _ _ _ => rfl
@[simp] noncomputable def fShl (x y : D) (L : Lh) : R3 D := (fInt CPow fun i j => .int (i * 2 ^ j.toNat)) x y L
theorem ok_shl {K : PySem.W.Frag} : OpOk K (rI CPow fun i j => .int (i * 2 ^ j.toNat)) fShl := ok_int fun _ _ _ _ => rfl
@[simp] noncomputable def fShr (x y : D) (L : Lh) : R3 D := (fInt (fun _ j => 0 ≤ j) fun i j => .int (i / 2 ^ j.toNat)) x y L
theorem ok_shr {K : PySem.W.Frag} : OpOk K (rI (fun _ j => 0 ≤ j) fun i j => .int (i / 2 ^ j.toNat)) fShr := ok_int fun _ _ _ _ => rfl
@[simp] def fBand (x y : D) (L : Lh) : R3 D := (fInt0 fun i j => .int (Builtin.bitAnd i j)) x y L
theorem ok_band {K : PySem.W.Frag} : OpOk K (rI0 fun i j => .int (Builtin.bitAnd i j)) fBand := ok_int0 fun _ _ _ _ => rfl
@[simp] def fLt (x y : D) (L : Lh) : R3 D := (fInt0 fun i j => .bl (decide (i < j))) x y L
theorem ok_lt {K : PySem.W.Frag} : OpOk K (rI0 fun i j => .bl (decide (i < j))) fLt := ok_int0 fun _ _ _ _ => rfl
@[simp] def fLe (x y : D) (L : Lh) : R3 D := (fInt0 fun i j => .bl (decide (i ≤ j))) x y L
theorem ok_le {K : PySem.W.Frag} : OpOk K (rI0 fun i j => .bl (decide (i ≤ j))) fLe := ok_int0 fun _ _ _ _ => rfl
@[simp] def fGt (x y : D) (L : Lh) : R3 D := (fInt0 fun i j => .bl (decide (j < i))) x y L
theorem ok_gt {K : PySem.W.Frag} : OpOk K (rI0 fun i j => .bl (decide (j < i))) fGt := ok_int0 fun _ _ _ _ => rfl
@[simp] def fGe (x y : D) (L : Lh) : R3 D := (fInt0 fun i j => .bl (decide (j ≤ i))) x y L
theorem ok_ge {K : PySem.W.Frag} : OpOk K (rI0 fun i j => .bl (decide (j ≤ i))) fGe := ok_int0 fun _ _ _ _ => rfl
def cmpD (neg : Bool) (x : D) (y : D) (L : Lh) : R3 D := match dat 8 L x, dat 8 L y with
  | some d, some e => if (SeqAt.shaped d && SeqAt.shaped e) = true then .val (.bl (if neg then !PyData.eqv d e else PyData.eqv d e)) L else .stuck
  | _, _ => .stuck
def fEq (x y : D) (L : Lh) : R3 D := (cmpD false) x y L
def fNe (x y : D) (L : Lh) : R3 D := (cmpD true) x y L
theorem ok_eq {K : PySem.W.Frag} : OpOk K (rEqD K) fEq := by
  intro W σ ρ H L Q x y vx vy A rx ry h
  unfold fEq cmpD at h
  split at h
  · rename_i d e h1 h2
    split at h
    · rename_i hs
      rw [Bool.and_eq_true] at hs
      exact ⟨d, e, dat_dp A 8 x vx d h1 rx, dat_dp A 8 y vy e h2 ry, hs.1, hs.2, h.mk A rfl⟩
    · exact h.elim
  · exact h.elim
theorem ok_ne {K : PySem.W.Frag} : OpOk K (rNeD K) fNe := by
  intro W σ ρ H L Q x y vx vy A rx ry h
  unfold fNe cmpD at h
  split at h
  · rename_i d e h1 h2
    split at h
    · rename_i hs
      rw [Bool.and_eq_true] at hs
      exact ⟨d, e, dat_dp A 8 x vx d h1 rx, dat_dp A 8 y vy e h2 ry, hs.1, hs.2, h.mk A rfl⟩
    · exact h.elim
  · exact h.elim
@[simp] def isNon : D → Option Bool
  | .non => some true
  | .val _ => none
  | _ => some false
theorem isNon_ok {K : PySem.W.Frag} {ρ : List Addr} {H : Hp} {d : D} {v : V} {b : Bool} (r : Rep K ρ H d v) (h : isNon d = some b) : decide (v = .non) = b := by
  cases d with
  | non => cases h; rw [show v = .non from r]; rfl
  | bl _ => cases h; rw [show v = .bl _ from r]; rfl
  | int _ => cases h; rw [show v = .int _ from r]; rfl
  | str _ => cases h; rw [show v = .str _ from r]; rfl
  | tup _ => cases h; obtain ⟨a, _, rfl, _⟩ := r; rfl
  | rol _ => cases h; obtain ⟨a, _, rfl, _⟩ := r; rfl
  | loc _ => cases h; obtain ⟨a, rfl, _⟩ := r; rfl
  | val _ => cases h
@[simp] def fIs (neg : Bool) (x : D) (y : D) (L : Lh) : R3 D := match y, isNon x with
  | .non, some b => .val (.bl (if neg then !b else b)) L
  | _, _ => .stuck
theorem ok_is {K : PySem.W.Frag} : OpOk K (fun x y H Q => y = .non ∧ Q (.bl (decide (x = .non))) H) (fIs false) := by
  intro W σ ρ H L Q x y vx vy A rx ry h
  unfold fIs at h
  split at h
  · rename_i b hb
    refine ⟨ry, ?_⟩
    rw [isNon_ok rx hb]
    exact h.mk A rfl
  · exact h.elim
theorem ok_isnot {K : PySem.W.Frag} : OpOk K (fun x y H Q => y = .non ∧ Q (.bl (!decide (x = .non))) H) (fIs true) := by
  intro W σ ρ H L Q x y vx vy A rx ry h
  unfold fIs at h
  split at h
  · rename_i b hb
    refine ⟨ry, ?_⟩
    rw [isNon_ok rx hb]
    exact h.mk A rfl
  · exact h.elim
@[simp] def fNeg (x : D) (L : Lh) : R3 D := match x with
  | .int i => .val (.int (-i)) L
  | _ => .stuck
theorem ok_neg {K : PySem.W.Frag} : UnOk K (rU fun i => .int (-i)) fNeg := by
  intro W σ ρ H L Q x vx A rx h
  unfold fNeg at h
  split at h
  · exact ⟨_, rx, h.mk A rfl⟩
  · exact h.elim
/-! in -/
def fIn (neg : Bool) (x : D) (y : D) (L : Lh) : R3 D := match dat 8 L x, dat 8 L y with
  | some d, some (.list ds) => if (SeqAt.shaped d && SeqAt.shaped (.list ds)) = true then .val (.bl (if neg then !(ds.any fun z => PyData.eqv z d) else ds.any fun z => PyData.eqv z d)) L else .stuck
  | _, _ => .stuck
theorem ok_in {K : PySem.W.Frag} : OpOk K (rInD K) (fIn false) := by
  intro W σ ρ H L Q x y vx vy A rx ry h
  unfold fIn at h
  split at h
  · rename_i d ds h1 h2
    split at h
    · rename_i hs
      rw [Bool.and_eq_true] at hs
      exact ⟨d, ds, dat_dp A 8 x vx d h1 rx, dat_dp A 8 y vy _ h2 ry, hs.1, hs.2, h.mk A rfl⟩
    · exact h.elim
  · exact h.elim
theorem ok_notin {K : PySem.W.Frag} : OpOk K (rNotInD K) (fIn true) := by
  intro W σ ρ H L Q x y vx vy A rx ry h
  unfold fIn at h
  split at h
  · rename_i d ds h1 h2
    split at h
    · rename_i hs
      rw [Bool.and_eq_true] at hs
      exact ⟨d, ds, dat_dp A 8 x vx d h1 rx, dat_dp A 8 y vy _ h2 ry, hs.1, hs.2, h.mk A rfl⟩
    · exact h.elim
  · exact h.elim
/-! subscripts -/
def fIx (x : D) (y : D) (L : Lh) : R3 D := match y with
  | .int i => (match itemsT x L with
    | some xs => (match atI xs i with
      | some d => .val d L
      | none => .stuck)
    | none => .stuck)
  | _ => .stuck
theorem Reps.atI {K : PySem.W.Frag} {ρ : List Addr} {H : Hp} {ds : List D} {vs : List V} (r : Reps K ρ H ds vs) {i : Int} {d : D} (h : L2.atI ds i = some d) : ∃ v, L2.atI vs i = some v ∧ Rep K ρ H d v := by
  unfold L2.atI at h ⊢
  rw [Reps.length r]
  cases e : ixN ds.length i with
  | none => rw [e] at h; cases h
  | some j =>
    rw [e] at h
    exact r.get h
theorem ok_ix {K : PySem.W.Frag} : OpOk K (rIx K) fIx := by
  intro W σ ρ H L Q x y vx vy A rx ry h
  unfold fIx at h
  split at h
  · rename_i i
    split at h
    · rename_i xs hx
      split at h
      · rename_i d hd
        obtain ⟨a, vs, rfl, hs, hr⟩ := itemsT_sq A hx rx
        obtain ⟨v, e1, e2⟩ := hr.atI hd
        rcases hs with hs | hs
        · exact .inl ⟨a, vs, i, v, rfl, ry, hs, e1, h.mk A e2⟩
        · exact .inr (.inl ⟨a, vs, i, v, rfl, ry, hs, e1, h.mk A e2⟩)
      · exact h.elim
    · exact h.elim
  · exact h.elim
/-! slices -/
def cutD (xs : List D) (lo hi : Option Int) : List D := (xs.drop (HT.sIx xs.length 0 lo)).take (HT.sIx xs.length xs.length hi - HT.sIx xs.length 0 lo)
theorem Reps.cutV {K : PySem.W.Frag} {ρ : List Addr} {H : Hp} {ds : List D} {vs : List V} (r : Reps K ρ H ds vs) (lo hi : Option Int) : Reps K ρ H (cutD ds lo hi) (L2.cutV vs lo hi) := by
  unfold cutD L2.cutV
  rw [Reps.length r]
  exact (r.drop _).take _
abbrev O3 := G3 → Lh → R3 (Option Int)
def RepO (ρ : List Addr) (H : Hp) (a b : Option Int) : Prop := a = b
def PO3 (X : Cx) (W : WX) (e : Option Expr) (f : O3) : Prop := ∃ t, PO X e t ∧ ∀ σ H ρ Γ L Q, Env3 X.K ρ H σ Γ → Ab X.K ρ H L → Hold X.K W σ ρ H RepO Q (f Γ L) → t σ H Q
@[simp] def oNo (_ : G3) (L : Lh) : R3 (Option Int) := .val none L
@[simp] def oSo (f : E3) (Γ : G3) (L : Lh) : R3 (Option Int) := (f Γ L).bind fun d L1 => match d with
  | .int i => .val (some i) L1
  | _ => .stuck
section
variable {X : Cx} {W : WX} {pos : Pos}
theorem o3_no : PO3 X W none oNo := ⟨_, po_none, fun σ H ρ Γ L Q E A h => h.mk A rfl⟩
theorem o3_so {e : Expr} {f : E3} (h : PE3 X W e f) : PO3 X W (some e) (oSo f) := by
  obtain ⟨te, p, q⟩ := h
  refine ⟨_, po_some p, fun σ H ρ Γ L Q E A h => ?_⟩
  refine q σ H ρ Γ L _ E A (hbind h fun x L1 vx H1 ρ1 e1 r1 A1 h1 => ?_)
  split at h1
  · exact ⟨_, r1, h1.mk A1 rfl⟩
  · exact h1.elim
/-- a slice of a list (a new one), a tuple, a text -/
def sliceD (x : D) (a b : Option Int) (L : Lh) : R3 D := match x with
  | .tup xs => .val (.tup (cutD xs a b)) L
  | .str z => if z.length ≤ 100000 then .val (.str (cutS z a b)) L else .stuck
  | x => (match items x L with
    | some xs => .val (.loc L.length) (L ++ [.lst (cutD xs a b)])
    | none => .stuck)
@[simp] theorem sliceD_tup {xs : List D} {a b : Option Int} {L : Lh} : sliceD (.tup xs) a b L = .val (.tup (cutD xs a b)) L := rfl
theorem sliceD_loc {n : Nat} {xs : List D} {a b : Option Int} {L : Lh} (h : L[n]? = some (.lst xs)) : sliceD (.loc n) a b L = .val (.loc L.length) (L ++ [.lst (cutD xs a b)]) := by
  have e := items_loc h
  show (match items (.loc n) L with | some xs => R3.val (D.loc L.length) (L ++ [Cell.lst (cutD xs a b)]) | none => .stuck) = _
  rw [e]
@[simp] theorem sliceD_rol {xs : List D} {a b : Option Int} {L : Lh} : sliceD (.rol xs) a b L = .val (.loc L.length) (L ++ [.lst (cutD xs a b)]) := rfl
@[simp] def eSl (f : E3) (lo hi : O3) (Γ : G3) (L : Lh) : R3 D := (f Γ L).bind fun x L1 => (lo Γ L1).bind fun a L2 => (hi Γ L2).bind fun b L3 => sliceD x a b L3
theorem e3_slice {e : Expr} {lo hi : Option Expr} {p2 : Pos} {f : E3} {fl fh : O3} (he : PE3 X W e f) (hl : PO3 X W lo fl) (hh : PO3 X W hi fh) : PE3 X W (.Subscript e (.Slice lo hi none p2) pos) (eSl f fl fh) := by
  obtain ⟨te, p, q⟩ := he
  obtain ⟨tl, pl, ql⟩ := hl
  obtain ⟨th, ph, qh⟩ := hh
  refine ⟨_, pe_slice (sl_list.or (sl_tupA.or sl_str)) p pl ph, fun σ H ρ Γ L Q E A h => ?_⟩
  refine q σ H ρ Γ L _ E A (hbind h fun x L1 vx H1 ρ1 e1 r1 A1 h1 => ?_)
  refine ql σ H1 ρ1 Γ L1 _ (E.mono e1) A1 (hbind h1 fun a L2 va H2 ρ2 e2 r2 A2 h2 => ?_)
  obtain rfl : a = va := r2
  refine qh σ H2 ρ2 Γ L2 _ (E.mono (e1.trans e2)) A2 (hbind h2 fun b L3 vb H3 ρ3 e3 r3 A3 h3 => ?_)
  obtain rfl : b = vb := r3
  have r4 := Rep.mono (e2.trans e3) x r1
  unfold sliceD at h3
  split at h3
  · rename_i xs
    obtain ⟨a', vs, rfl, hs, hr⟩ := r4
    refine .inr (.inl ⟨a', vs, rfl, hs, ?_⟩)
    have hl := Reps.length hr
    refine ⟨fun hw => h3.mk A3 ?_, fun _ p hp => h3 _ _ ρ3 (ext_new hp) ⟨p, _, rfl, SqT.of upd_same, Reps.mono (ext_new hp) _ (hr.cutV a b)⟩ (A3.new hp)⟩
    have ew : cutD xs a b = xs := by
      unfold cutD
      rw [← hl, hw.1, hw.2, List.drop_zero, Nat.sub_zero, hl, List.take_length]
    rw [ew]
    exact ⟨a', vs, rfl, hs, hr⟩
  · split at h3
    · rename_i z hz
      exact .inr (.inr ⟨z, r4, size_le hz, h3.mk A3 rfl⟩)
    · exact h3.elim
  · split at h3
    · rename_i xs hx
      obtain ⟨a', vs, rfl, hs, hr⟩ := items_sq A3 hx r4
      exact .inl ⟨a', vs, rfl, hs, hold_new h3 A3 (hr.cutV a b)⟩
    · exact h3.elim
end
/-! ## built-ins -/
@[simp] def fAbs (xs : List D) (L : Lh) : R3 D := match xs with
  | [.int i] => .val (.int (if i < 0 then -i else i)) L
  | _ => .stuck
theorem Reps.inv1 {K : PySem.W.Frag} {ρ : List Addr} {H : Hp} {d : D} {vs : List V} (r : Reps K ρ H [d] vs) : ∃ v, vs = [v] ∧ Rep K ρ H d v := by
  obtain ⟨v, r', rfl, h1, h2⟩ := r
  rw [show r' = [] from h2]
  exact ⟨v, rfl, h1⟩
theorem Reps.inv2 {K : PySem.W.Frag} {ρ : List Addr} {H : Hp} {d e : D} {vs : List V} (r : Reps K ρ H [d, e] vs) : ∃ v u, vs = [v, u] ∧ Rep K ρ H d v ∧ Rep K ρ H e u := by
  obtain ⟨v, r', rfl, h1, h2⟩ := r
  obtain ⟨u, rfl, h3⟩ := Reps.inv1 h2
  exact ⟨v, u, rfl, h1, h3⟩
theorem ok_abs {K : PySem.W.Frag} : CaOk K (fun xs H Q => ∃ i, xs = [.int i] ∧ Q (.int (if i < 0 then -i else i)) H) fAbs := by
  intro W σ ρ H L Q xs vs A r h
  unfold fAbs at h
  split at h
  · obtain ⟨v, rfl, r1⟩ := r.inv1
    exact ⟨_, by rw [show v = .int _ from r1], h.mk A rfl⟩
  · exact h.elim
@[simp] def f2Int (g : Int → Int → Int) (xs : List D) (L : Lh) : R3 D := match xs with
  | [.int i, .int j] => .val (.int (g i j)) L
  | _ => .stuck
theorem ok_2int {K : PySem.W.Frag} {g : Int → Int → Int} : CaOk K (fun xs H Q => ∃ i j, xs = [.int i, .int j] ∧ Q (.int (g i j)) H) (f2Int g) := by
  intro W σ ρ H L Q xs vs A r h
  unfold f2Int at h
  split at h
  · obtain ⟨v, u, rfl, r1, r2⟩ := r.inv2
    exact ⟨_, _, by rw [show v = .int _ from r1, show u = .int _ from r2], h.mk A rfl⟩
  · exact h.elim
@[simp] def fMax2 (xs : List D) (L : Lh) : R3 D := (f2Int fun i j => if j > i then j else i) xs L
@[simp] def fMin2 (xs : List D) (L : Lh) : R3 D := (f2Int fun i j => if j < i then j else i) xs L
theorem ok_max2 {K : PySem.W.Frag} : CaOk K (fun xs H Q => ∃ i j, xs = [.int i, .int j] ∧ Q (.int (if j > i then j else i)) H) fMax2 := ok_2int
theorem ok_min2 {K : PySem.W.Frag} : CaOk K (fun xs H Q => ∃ i j, xs = [.int i, .int j] ∧ Q (.int (if j < i then j else i)) H) fMin2 := ok_2int
@[simp] def fIntOf (xs : List D) (L : Lh) : R3 D := match xs with
  | [.int i] => .val (.int i) L
  | [.bl k] => .val (.int (if k then 1 else 0)) L
  | _ => .stuck
theorem ok_intOf {K : PySem.W.Frag} : CaOk K (fun xs H Q => (∃ i, xs = [.int i] ∧ Q (.int i) H) ∨ ∃ k, xs = [.bl k] ∧ Q (.int (if k then 1 else 0)) H) fIntOf := by
  intro W σ ρ H L Q xs vs A r h
  unfold fIntOf at h
  split at h
  · obtain ⟨v, rfl, r1⟩ := r.inv1
    exact .inl ⟨_, by rw [show v = .int _ from r1], h.mk A rfl⟩
  · obtain ⟨v, rfl, r1⟩ := r.inv1
    exact .inr ⟨_, by rw [show v = .bl _ from r1], h.mk A rfl⟩
  · exact h.elim
@[simp] def fLen (xs : List D) (L : Lh) : R3 D := match xs with
  | [x] => (match itemsT x L with
    | some ys => .val (.int ys.length) L
    | none => .stuck)
  | _ => .stuck
theorem ok_len {K : PySem.W.Frag} : CaOk K (fun xs H Q => ∃ p ys, xs = [.ref p] ∧ (SqL K H p ys ∨ SqT K H p ys) ∧ Q (.int ys.length) H) fLen := by
  intro W σ ρ H L Q xs vs A r h
  unfold fLen at h
  split at h
  · split at h
    · rename_i ys hy
      obtain ⟨v, rfl, r1⟩ := r.inv1
      obtain ⟨a, us, rfl, hs, hr⟩ := itemsT_sq A hy r1
      exact ⟨a, us, rfl, hs, by rw [Reps.length hr]; exact h.mk A rfl⟩
    · exact h.elim
  · exact h.elim
@[simp] def fDivmod (xs : List D) (L : Lh) : R3 D := match xs with
  | [.int i, .int j] => if 0 < j ∧ Builtin.divisionGoesByPylong i j = false then .val (.tup [.int (i / j), .int (i % j)]) L else .stuck
  | _ => .stuck
theorem ok_divmod {K : PySem.W.Frag} : CaOk K (fun xs H Q => ∃ i j, xs = [.int i, .int j] ∧ CDivP i j ∧ ∀ p, H p = none → Q (.ref p) (upd H p (.tup [.int (i / j), .int (i % j)]))) fDivmod := by
  intro W σ ρ H L Q xs vs A r h
  unfold fDivmod at h
  split at h
  · split at h
    · rename_i hc
      obtain ⟨v, u, rfl, r1, r2⟩ := r.inv2
      exact ⟨_, _, by rw [show v = .int _ from r1, show u = .int _ from r2], hc, fun p hp => h _ _ ρ (ext_new hp) ⟨p, _, rfl, SqT.of upd_same, _, _, rfl, rfl, _, _, rfl, rfl, rfl⟩ (A.new hp)⟩
    · exact h.elim
  · exact h.elim
@[simp] def fList (xs : List D) (L : Lh) : R3 D := match xs with
  | [x] => (match itemsT x L with
    | some ys => .val (.loc L.length) (L ++ [.lst ys])
    | none => .stuck)
  | _ => .stuck
theorem ok_list {K : PySem.W.Frag} : CaOk K (fun xs H Q => ∃ p ys, xs = [.ref p] ∧ (SqL K H p ys ∨ SqT K H p ys) ∧ ∀ l, H l = none → Q (.ref l) (upd H l (.lst ys))) fList := by
  intro W σ ρ H L Q xs vs A r h
  unfold fList at h
  split at h
  · split at h
    · rename_i ys hy
      obtain ⟨v, rfl, r1⟩ := r.inv1
      obtain ⟨a, us, rfl, hs, hr⟩ := itemsT_sq A hy r1
      exact ⟨a, us, rfl, hs, hold_new h A hr⟩
    · exact h.elim
  · exact h.elim
@[simp] def fTuple (xs : List D) (L : Lh) : R3 D := match xs with
  | [.tup ys] => .val (.tup ys) L
  | [x] => (match items x L with
    | some ys => .val (.tup ys) L
    | none => .stuck)
  | _ => .stuck
theorem ok_tuple {K : PySem.W.Frag} : CaOk K (fun xs H Q => ∃ p ys, xs = [.ref p] ∧ ((SqL K H p ys ∧ ∀ l, H l = none → Q (.ref l) (upd H l (.tup ys))) ∨ (SqT K H p ys ∧ Q (.ref p) H))) fTuple := by
  intro W σ ρ H L Q xs vs A r h
  unfold fTuple at h
  split at h
  · obtain ⟨v, rfl, r1⟩ := r.inv1
    obtain ⟨a, us, rfl, hs, hr⟩ := id r1
    exact ⟨a, us, rfl, .inr ⟨hs, h.mk A r1⟩⟩
  · split at h
    · rename_i ys hy
      obtain ⟨v, rfl, r1⟩ := r.inv1
      obtain ⟨a, us, rfl, hs, hr⟩ := items_sq A hy r1
      exact ⟨a, us, rfl, .inl ⟨hs, fun l hl => h _ _ ρ (ext_new hl) ⟨l, us, rfl, SqT.of upd_same, Reps.mono (ext_new hl) _ hr⟩ (A.new hl)⟩⟩
    · exact h.elim
  · exact h.elim
@[simp] def fSum (xs : List D) (L : Lh) : R3 D := match xs with
  | [x] => (match (items x L).bind intsD with
    | some ns => .val (.int ns.sum) L
    | none => .stuck)
  | _ => .stuck
theorem ok_sum {K : PySem.W.Frag} : CaOk K (rSum K) fSum := by
  intro W σ ρ H L Q xs vs A r h
  unfold fSum at h
  split at h
  · split at h
    · rename_i ns hn
      obtain ⟨v, rfl, r1⟩ := r.inv1
      rw [Option.bind_eq_some_iff] at hn
      obtain ⟨ys, hy, hi⟩ := hn
      obtain ⟨a, us, rfl, hs, hr⟩ := items_sq A hy r1
      have e := ints_v hi hr
      subst e
      exact ⟨a, ns, rfl, hs, h.mk A rfl⟩
    · exact h.elim
  · exact h.elim
@[simp] def fBls (g : List Bool → Bool) (xs : List D) (L : Lh) : R3 D := match xs with
  | [x] => (match (items x L).bind blsD with
    | some ns => .val (.bl (g ns)) L
    | none => .stuck)
  | _ => .stuck
@[simp] def fAll (xs : List D) (L : Lh) : R3 D := (fBls fun bs => bs.all id) xs L
@[simp] def fAny (xs : List D) (L : Lh) : R3 D := (fBls fun bs => bs.any id) xs L
theorem ok_all {K : PySem.W.Frag} : CaOk K (rAll K) fAll := by
  intro W σ ρ H L Q xs vs A r h
  unfold fAll fBls at h
  split at h
  · split at h
    · rename_i ns hn
      obtain ⟨v, rfl, r1⟩ := r.inv1
      rw [Option.bind_eq_some_iff] at hn
      obtain ⟨ys, hy, hi⟩ := hn
      obtain ⟨a, us, rfl, hs, hr⟩ := items_sq A hy r1
      have e := bls_v hi hr
      subst e
      exact ⟨a, ns, rfl, hs, h.mk A rfl⟩
    · exact h.elim
  · exact h.elim
theorem ok_any {K : PySem.W.Frag} : CaOk K (rAny K) fAny := by
  intro W σ ρ H L Q xs vs A r h
  unfold fAny fBls at h
  split at h
  · split at h
    · rename_i ns hn
      obtain ⟨v, rfl, r1⟩ := r.inv1
      rw [Option.bind_eq_some_iff] at hn
      obtain ⟨ys, hy, hi⟩ := hn
      obtain ⟨a, us, rfl, hs, hr⟩ := items_sq A hy r1
      have e := bls_v hi hr
      subst e
      exact ⟨a, ns, rfl, hs, h.mk A rfl⟩
    · exact h.elim
  · exact h.elim
/-! isinstance with a built-in type -/
def tyName (x : D) (L : Lh) : Option String := match x with
  | .non => some "NoneType"
  | .bl _ => some "bool"
  | .int _ => some "int"
  | .str _ => some "str"
  | .tup _ => some "tuple"
  | .rol _ => some "list"
  | .loc n => (match L[n]? with
    | some (.lst _) => some "list"
    | _ => none)
  | .val _ => none
@[simp] theorem tyName_non {L : Lh} : tyName .non L = some "NoneType" := rfl
@[simp] theorem tyName_bl {b : Bool} {L : Lh} : tyName (.bl b) L = some "bool" := rfl
@[simp] theorem tyName_int {i : Int} {L : Lh} : tyName (.int i) L = some "int" := rfl
@[simp] theorem tyName_str {x : Str} {L : Lh} : tyName (.str x) L = some "str" := rfl
@[simp] theorem tyName_tup {xs : List D} {L : Lh} : tyName (.tup xs) L = some "tuple" := rfl
@[simp] theorem tyName_rol {xs : List D} {L : Lh} : tyName (.rol xs) L = some "list" := rfl
theorem tyName_loc {n : Nat} {xs : List D} {L : Lh} (h : L[n]? = some (.lst xs)) : tyName (.loc n) L = some "list" := by unfold tyName; simp only [h]
theorem tyName_ok {K : PySem.W.Frag} {ρ : List Addr} {H : Hp} {L : Lh} (A : Ab K ρ H L) {x : D} {v : V} {n : String} (h : tyName x L = some n) (r : Rep K ρ H x v) : TyX K H v (.type n) := by
  cases x with
  | non => cases h; rw [show v = .non from r]; exact .base .non
  | bl b => cases h; rw [show v = .bl b from r]; exact .base (.bl b)
  | int i => cases h; rw [show v = .int i from r]; exact .base (.int i)
  | str x => cases h; rw [show v = .str x from r]; exact .base (.str x)
  | tup xs =>
    cases h
    obtain ⟨a, vs, rfl, (h1 | ⟨o, h1⟩) | ⟨o, its, m, h1, h2, _⟩, _⟩ := r
    · exact .base (.tup h1)
    · exact .fTuple h1
    · exact .kTuple h1 h2
  | rol xs =>
    cases h
    obtain ⟨a, vs, rfl, ⟨o, h1⟩ | ⟨o, its, m, h1, h2, _⟩, _⟩ := r
    · exact .base (.frz h1)
    · exact .kList h1 h2
  | loc n =>
    simp only [tyName] at h
    split at h
    · rename_i xs hx
      cases h
      obtain ⟨a, vs, rfl, _, hv, _⟩ := A.at hx r
      exact .base (.lst hv)
    · cases h
  | val _ => cases h
@[simp] def fIsi (xs : List D) (L : Lh) : R3 D := match xs with
  | [x, .val (.ty T)] => (match (tyName x L).bind fun n => kitB n T with
    | some b => .val (.bl b) L
    | none => .stuck)
  | _ => .stuck
theorem ok_isi {K : PySem.W.Frag} : CaOk K (rIsi K) fIsi := by
  intro W σ ρ H L Q xs vs A r h
  unfold fIsi at h
  split at h
  · rename_i x T
    split at h
    · rename_i b hb
      obtain ⟨v, u, rfl, r1, r2⟩ := r.inv2
      rw [Option.bind_eq_some_iff] at hb
      obtain ⟨n, hn, hk⟩ := hb
      rw [show u = .ty T from r2]
      exact ⟨v, .ty T, .type n, .type T, b, rfl, .ty T, tyName_ok A hn r1, kit_ty hk, h.mk A rfl⟩
    · exact h.elim
  · exact h.elim
theorem e3_ty {X : Cx} {W : WX} {pos : Pos} {x : Str} {T : String} (hm : X.mg x = none) (hg : Gl X x := by rfl) (hv : bootBuiltins x = some (.type T) := by decide +kernel) (hn : x ≠ "__name__" := by decide) (hd : (x == ("__debug__" : Str)) = false := by decide) : PE3 X W (.Name x pos) (eC (.val (.ty T))) :=
  ⟨_, pe_bltn (v := .ty T) hg hm hv rfl hn hd, fun σ H ρ Γ L Q E A h => h.mk A rfl⟩
/-! ## methods -/
def onL (L : Lh) (x : D) (k : Nat → List D → R3 D) : R3 D := match x with
  | .loc n => (match L[n]? with
    | some (.lst xs) => k n xs
    | _ => .stuck)
  | _ => .stuck
theorem onL_hold {K : PySem.W.Frag} {W : WX} {σ : L2.St} {ρ : List Addr} {H : Hp} {L : Lh} {Q : VK} {x : D} {k : Nat → List D → R3 D} (h : Hold K W σ ρ H (Rep K) Q (onL L x k)) : ∃ n xs, x = .loc n ∧ L[n]? = some (.lst xs) ∧ Hold K W σ ρ H (Rep K) Q (k n xs) := by
  unfold onL at h
  split at h
  · split at h
    · exact ⟨_, _, rfl, by assumption, h⟩
    · exact h.elim
  · exact h.elim
def mAppend : D → List D → Lh → R3 D := fun x as L => onL L x fun n xs => match as with
  | [d] => if xs.length ≤ 100000 then .val .non (L.set n (.lst (xs ++ [d]))) else .stuck
  | _ => .stuck
theorem ok_append {K : PySem.W.Frag} : MtOk K "list" rAppend mAppend := by
  intro W σ ρ H L Q x xs vx vs A rx rs h
  obtain ⟨n, ys, rfl, hy, h⟩ := onL_hold h
  obtain ⟨a, us, rfl, ha, hv, hr⟩ := A.at hy rx
  split at h
  · split at h
    · rename_i hl
      obtain ⟨v, rfl, r1⟩ := rs.inv1
      exact ⟨a, us, v, rfl, rfl, hv, by rw [Reps.length hr]; exact size_lt hl, h _ _ ρ (ext_set hv) rfl (A.setl hy ha (hr.append (Reps.one r1)))⟩
    · exact h.elim
  · exact h.elim
def mExtend : D → List D → Lh → R3 D := fun x as L => onL L x fun n xs => match as with
  | [.loc m] => (match L[m]? with
    | some (.lst ys) => if xs.length + ys.length ≤ 100000 then .val .non (L.set n (.lst (xs ++ ys))) else .stuck
    | _ => .stuck)
  | _ => .stuck
theorem ok_extend {K : PySem.W.Frag} : MtOk K "list" rExtend mExtend := by
  intro W σ ρ H L Q x xs vx vs A rx rs h
  obtain ⟨n, ys, rfl, hy, h⟩ := onL_hold h
  obtain ⟨a, us, rfl, ha, hv, hr⟩ := A.at hy rx
  split at h
  · split at h
    · rename_i zs hz
      split at h
      · rename_i hl
        obtain ⟨v, rfl, r1⟩ := rs.inv1
        obtain ⟨b, ws, rfl, hb, hw, hq⟩ := A.at hz r1
        exact ⟨a, b, us, ws, rfl, rfl, hv, hw, by rw [Reps.length hr, Reps.length hq]; exact size_le hl, h _ _ ρ (ext_set hv) rfl (A.setl hy ha (hr.append hq))⟩
      · exact h.elim
    · exact h.elim
  · exact h.elim
def mInsert : D → List D → Lh → R3 D := fun x as L => onL L x fun n xs => match as with
  | [.int i, d] => if xs.length ≤ 100000 ∧ 0 ≤ i ∧ i ≤ 100000 then .val .non (L.set n (.lst (xs.take i.toNat ++ [d] ++ xs.drop i.toNat))) else .stuck
  | _ => .stuck
theorem ok_insert {K : PySem.W.Frag} : MtOk K "list" (fun x vs H Q => ∃ (l : Addr) (xs : List V) (i : Int) (y : V), x = .ref l ∧ vs = [.int i, y] ∧ H l = some (.lst xs) ∧ xs.length < sizeLine ∧ 0 ≤ i ∧ i < 2 ^ 63 ∧
    Q .non (upd H l (.lst (xs.take i.toNat ++ [y] ++ xs.drop i.toNat)))) mInsert := by
  intro W σ ρ H L Q x xs vx vs A rx rs h
  obtain ⟨n, ys, rfl, hy, h⟩ := onL_hold h
  obtain ⟨a, us, rfl, ha, hv, hr⟩ := A.at hy rx
  split at h
  · rename_i i d _
    split at h
    · rename_i hl
      obtain ⟨v, u, rfl, r1, r2⟩ := rs.inv2
      exact ⟨a, us, i, u, rfl, by rw [show v = .int i from r1], hv, by rw [Reps.length hr]; exact size_lt hl.1, hl.2.1, by omega, h _ _ ρ (ext_set hv) rfl (A.setl hy ha (((hr.take _).append (Reps.one r2)).append (hr.drop _)))⟩
    · exact h.elim
  · exact h.elim
def mPop : D → List D → Lh → R3 D := fun x as L => onL L x fun n xs => match as with
  | [] => (match xs[xs.length - 1]? with
    | some d => .val d (L.set n (.lst xs.dropLast))
    | none => .stuck)
  | _ => .stuck
theorem dropLast_eq {α : Type} (l : List α) : l.dropLast = l.take (l.length - 1) := List.dropLast_eq_take
theorem ok_pop {K : PySem.W.Frag} : MtOk K "list" rPop mPop := by
  intro W σ ρ H L Q x xs vx vs A rx rs h
  obtain ⟨n, ys, rfl, hy, h⟩ := onL_hold h
  obtain ⟨a, us, rfl, ha, hv, hr⟩ := A.at hy rx
  split at h
  · split at h
    · rename_i d hd
      obtain ⟨v, e1, e2⟩ := hr.get hd
      have e : vs = [] := rs
      subst e
      refine ⟨a, us, v, rfl, rfl, hv, by rw [Reps.length hr]; exact e1, h _ _ ρ (ext_set hv) (Rep.mono (ext_set hv) d e2) (A.setl hy ha ?_)⟩
      rw [dropLast_eq, dropLast_eq, Reps.length hr]
      exact hr.take _
    · exact h.elim
  · exact h.elim
def mPopAt : D → List D → Lh → R3 D := fun x as L => onL L x fun n xs => match as with
  | [.int i] => if -100000 ≤ i ∧ i ≤ 100000 then (match seqIndex? i xs.length with
    | some k => (match xs[k]? with
      | some d => .val d (L.set n (.lst (xs.eraseIdx k)))
      | none => .stuck)
    | none => .stuck) else .stuck
  | _ => .stuck
theorem Reps.erase {K : PySem.W.Frag} {ρ : List Addr} {H : Hp} : ∀ {ds : List D} {vs : List V} (k : Nat), Reps K ρ H ds vs → Reps K ρ H (ds.eraseIdx k) (vs.eraseIdx k)
  | [], _, _, h => by rw [show _ = [] from h]; rfl
  | x :: xs, _, 0, ⟨u, r, h1, h2, h3⟩ => by subst h1; exact h3
  | x :: xs, _, i + 1, ⟨u, r, h1, h2, h3⟩ => by subst h1; exact ⟨u, r.eraseIdx i, rfl, h2, Reps.erase i h3⟩
theorem ok_popAt {K : PySem.W.Frag} : MtOk K "list" rPopAt mPopAt := by
  intro W σ ρ H L Q x xs vx vs A rx rs h
  obtain ⟨n, ys, rfl, hy, h⟩ := onL_hold h
  obtain ⟨a, us, rfl, ha, hv, hr⟩ := A.at hy rx
  split at h
  · rename_i i _
    split at h
    · rename_i hb
      split at h
      · rename_i k hk
        split at h
        · rename_i d hd
          obtain ⟨v, e1, e2⟩ := hr.get hd
          obtain ⟨u, rfl, r1⟩ := rs.inv1
          rw [show u = .int i from r1]
          exact ⟨a, us, i, k, v, rfl, rfl, hv, by omega, by omega, by rw [Reps.length hr]; exact hk, e1, h _ _ ρ (ext_set hv) (Rep.mono (ext_set hv) d e2) (A.setl hy ha (hr.erase k))⟩
        · exact h.elim
      · exact h.elim
    · exact h.elim
  · exact h.elim
def mClear : D → List D → Lh → R3 D := fun x as L => onL L x fun n xs => match as with
  | [] => .val .non (L.set n (.lst []))
  | _ => .stuck
theorem ok_clear {K : PySem.W.Frag} : MtOk K "list" rClear mClear := by
  intro W σ ρ H L Q x xs vx vs A rx rs h
  obtain ⟨n, ys, rfl, hy, h⟩ := onL_hold h
  obtain ⟨a, us, rfl, ha, hv, hr⟩ := A.at hy rx
  split at h
  · have e : vs = [] := rs
    subst e
    exact ⟨a, us, rfl, rfl, hv, h _ _ ρ (ext_set hv) rfl (A.setl hy ha rfl)⟩
  · exact h.elim
def mReverse : D → List D → Lh → R3 D := fun x as L => onL L x fun n xs => match as with
  | [] => .val .non (L.set n (.lst xs.reverse))
  | _ => .stuck
theorem ok_reverse {K : PySem.W.Frag} : MtOk K "list" rReverse mReverse := by
  intro W σ ρ H L Q x xs vx vs A rx rs h
  obtain ⟨n, ys, rfl, hy, h⟩ := onL_hold h
  obtain ⟨a, us, rfl, ha, hv, hr⟩ := A.at hy rx
  split at h
  · have e : vs = [] := rs
    subst e
    exact ⟨a, us, rfl, rfl, hv, h _ _ ρ (ext_set hv) rfl (A.setl hy ha hr.rev)⟩
  · exact h.elim
/-! ## iterables -/
def seqI (x : D) (L : Lh) : Option It3 := match x with
  | .rol xs => some ⟨xs, fun _ => True⟩
  | .loc n => (match L[n]? with
    | some (.lst xs) => some ⟨xs, fun L' => L'[n]? = some (.lst xs)⟩
    | _ => none)
  | _ => none
def tupI (x : D) : Option It3 := match x with
  | .tup xs => some ⟨xs, fun _ => True⟩
  | _ => none
@[simp] theorem seqI_rol {xs : List D} {L : Lh} : seqI (.rol xs) L = some ⟨xs, fun _ => True⟩ := rfl
@[simp] theorem seqI_tup {xs : List D} {L : Lh} : seqI (.tup xs) L = none := rfl
theorem seqI_loc {n : Nat} {xs : List D} {L : Lh} (h : L[n]? = some (.lst xs)) : seqI (.loc n) L = some ⟨xs, fun L' => L'[n]? = some (.lst xs)⟩ := by unfold seqI; simp only [h]
@[simp] theorem tupI_tup {xs : List D} : tupI (.tup xs) = some ⟨xs, fun _ => True⟩ := rfl
@[simp] theorem tupI_rol {xs : List D} : tupI (.rol xs) = none := rfl
@[simp] theorem tupI_loc {n : Nat} : tupI (.loc n) = none := rfl
section
variable {K : PySem.W.Frag} {ρ : List Addr} {H : Hp} {L : Lh}
theorem seqI_ok (A : Ab K ρ H L) {x : D} {v : V} {it : It3} (h : seqI x L = some it) (r : Rep K ρ H x v) : ∃ a, v = .ref a ∧ (∃ vs, SqL K H a vs ∧ vs.length = it.xs.length) ∧
    ∀ ρ' H' L', Ext ρ H ρ' H' → Ab K ρ' H' L' → it.chk L' → ∃ vs, SqL K H' a vs ∧ Reps K ρ' H' it.xs vs := by
  unfold seqI at h
  split at h
  · cases h
    obtain ⟨a, vs, rfl, h1, h2⟩ := r
    exact ⟨a, rfl, ⟨vs, h1.sq, Reps.length h2⟩, fun ρ' H' L' e A' _ => ⟨vs, (e.roL h1).sq, Reps.mono e _ h2⟩⟩
  · split at h
    · rename_i xs hx
      cases h
      obtain ⟨a, vs, rfl, ha, hv, hr⟩ := A.at hx r
      refine ⟨a, rfl, ⟨vs, SqL.of hv, Reps.length hr⟩, fun ρ' H' L' e A' hc => ?_⟩
      obtain ⟨a', us, e1, e2, e3, e4⟩ := A'.at hc (Rep.mono e _ r)
      cases e1
      exact ⟨us, SqL.of e3, e4⟩
    · cases h
  · cases h
theorem tupI_ok {x : D} {v : V} {it : It3} (h : tupI x = some it) (r : Rep K ρ H x v) : ∃ a, v = .ref a ∧ (∃ vs, SqT K H a vs ∧ vs.length = it.xs.length) ∧
    ∀ ρ' H' L', Ext ρ H ρ' H' → Ab K ρ' H' L' → it.chk L' → ∃ vs, SqT K H' a vs ∧ Reps K ρ' H' it.xs vs := by
  unfold tupI at h
  split at h
  · cases h
    obtain ⟨a, vs, rfl, h1, h2⟩ := r
    exact ⟨a, rfl, ⟨vs, h1, Reps.length h2⟩, fun ρ' H' L' e A' _ => ⟨vs, e.sqT h1, Reps.mono e _ h2⟩⟩
  · cases h
end
/-- what a sequence at a gives, turn by turn; S tells what is there -/
theorem itok_seq {K : PySem.W.Frag} {ρ : List Addr} {H : Hp} {J : L2.It} {it : It3} {S : Hp → List V → Prop} (hs : ∀ ρ' H' L', Ext ρ H ρ' H' → Ab K ρ' H' L' → it.chk L' → ∃ vs, S H' vs ∧ Reps K ρ' H' it.xs vs)
    (g : ∀ i H vs, i < it.xs.length → vs.length = it.xs.length → S H vs → J.go i H) (st : ∀ H vs, vs.length = it.xs.length → S H vs → J.stop it.xs.length H) (y : ∀ i H x H', i < it.xs.length → J.yld i H x H' → H' = H ∧ ∀ vs, vs.length = it.xs.length → S H vs → vs[i]? = some x) : ItOk K ρ H J it := by
  refine ⟨fun H' => ∃ vs, S H' vs ∧ vs.length = it.xs.length, fun i H x H' => H' = H ∧ ∀ vs, vs.length = it.xs.length → S H vs → vs[i]? = some x, ⟨fun i H hi ⟨vs, h1, h2⟩ => g i H vs hi h2 h1, fun H ⟨vs, h1, h2⟩ => st H vs h2 h1, fun i H x H' hi _ hy => y i H x H' hi hy⟩, fun ρ' H' L' e A c => ?_, fun i ρ' H' L' x H'' hi e A c hy => ?_⟩
  · obtain ⟨vs, h1, h2⟩ := hs ρ' H' L' e A c
    exact ⟨vs, h1, Reps.length h2⟩
  · obtain ⟨vs, h1, h2⟩ := hs ρ' H' L' e A c
    obtain ⟨rfl, hx⟩ := hy
    obtain ⟨d, e1, e2⟩ := h2.getV (hx vs (Reps.length h2) h1)
    exact ⟨d, e1, Ext.refl _ _, e2, A⟩
/-- .. the items in new pairs -/
theorem itok_pair {K : PySem.W.Frag} {ρ : List Addr} {H : Hp} {J : L2.It} {n : Nat} {xs ys : Nat → Option D} {zs : List D} {chk : Lh → Prop} {S : Hp → (Nat → Option V) → (Nat → Option V) → Prop} (hz : zs.length = n) (hzi : ∀ i x y, i < n → xs i = some x → ys i = some y → zs[i]? = some (.tup [x, y]))
    (hs : ∀ ρ' H' L', Ext ρ H ρ' H' → Ab K ρ' H' L' → chk L' → ∃ vs us, S H' vs us ∧ (∀ i v, i < n → vs i = some v → ∃ d, xs i = some d ∧ Rep K ρ' H' d v) ∧ (∀ i v, i < n → us i = some v → ∃ d, ys i = some d ∧ Rep K ρ' H' d v))
    (g : ∀ i H vs us, i < n → S H vs us → J.go i H) (st : ∀ H vs us, S H vs us → J.stop n H)
    (y : ∀ i H v H', J.yld i H v H' → ∃ T x y, v = .ref T ∧ H T = none ∧ H' = upd H T (.tup [x, y]) ∧ ∀ vs us, S H vs us → vs i = some x ∧ us i = some y) : ItOk K ρ H J ⟨zs, chk⟩ := by
  subst hz
  refine ⟨fun H' => ∃ vs us, S H' vs us, fun i H v H' => ∃ T x y, v = .ref T ∧ H T = none ∧ H' = upd H T (.tup [x, y]) ∧ ∀ vs us, S H vs us → vs i = some x ∧ us i = some y, ⟨fun i H hi ⟨vs, us, h1⟩ => g i H vs us hi h1, fun H ⟨vs, us, h1⟩ => st H vs us h1, fun i H x H' _ _ hy => y i H x H' hy⟩, fun ρ' H' L' e A c => ?_, fun i ρ' H' L' x H'' hi e A c hy => ?_⟩
  · obtain ⟨vs, us, h1, _⟩ := hs ρ' H' L' e A c
    exact ⟨vs, us, h1⟩
  · obtain ⟨vs, us, h1, h2, h3⟩ := hs ρ' H' L' e A c
    obtain ⟨T, x', y', rfl, hT, rfl, hxy⟩ := hy
    obtain ⟨e1, e2⟩ := hxy vs us h1
    obtain ⟨d, q1, q2⟩ := h2 i x' hi e1
    obtain ⟨d', q3, q4⟩ := h3 i y' hi e2
    have ex : Ext ρ' H' ρ' (upd H' T (.tup [x', y'])) := ext_new hT
    exact ⟨_, hzi i d d' hi q1 q3, ex, ⟨T, _, rfl, SqT.of upd_same, _, _, rfl, Rep.mono ex d q2, _, _, rfl, Rep.mono ex d' q4, rfl⟩, A.new hT⟩
section
variable {X : Cx} {W : WX} {pos : Pos} {tg : Expr}
@[simp] def iL (f : E3) (Γ : G3) (L : Lh) : R3 It3 := (f Γ L).bind fun x L1 => match seqI x L1 with
  | some it => .val it L1
  | none => .stuck
@[simp] def iT (f : E3) (Γ : G3) (L : Lh) : R3 It3 := (f Γ L).bind fun x L1 => match tupI x with
  | some it => .val it L1
  | none => .stuck
theorem itok_list {K : PySem.W.Frag} {ρ : List Addr} {H : Hp} {a : Addr} {it : It3} (hs : ∀ ρ' H' L', Ext ρ H ρ' H' → Ab K ρ' H' L' → it.chk L' → ∃ vs, SqL K H' a vs ∧ Reps K ρ' H' it.xs vs) : ItOk K ρ H (Itl K a) it :=
  itok_seq (S := fun H vs => SqL K H a vs) hs (fun i H vs hi hl h => ⟨vs, vs[i]'(by omega), h, by simp [show i < vs.length by omega]⟩) (fun H vs hl h => ⟨vs, h, by omega⟩) fun i H x H' _ hy => ⟨hy.1, fun vs _ h => hy.2 vs h⟩
theorem itok_tup {K : PySem.W.Frag} {ρ : List Addr} {H : Hp} {a : Addr} {it : It3} (hs : ∀ ρ' H' L', Ext ρ H ρ' H' → Ab K ρ' H' L' → it.chk L' → ∃ vs, SqT K H' a vs ∧ Reps K ρ' H' it.xs vs) : ItOk K ρ H (Itt K a) it :=
  itok_seq (S := fun H vs => SqT K H a vs) hs (fun i H vs hi hl h => ⟨vs, vs[i]'(by omega), h, by simp [show i < vs.length by omega]⟩) (fun H vs hl h => ⟨vs, h, by omega⟩) fun i H x H' _ hy => ⟨hy.1, fun vs _ h => hy.2 vs h⟩
theorem i3_list {e : Expr} {f : E3} (he : PE3 X W e f) : PI3 X W tg e (iL f) := by
  obtain ⟨te, p, q⟩ := he
  refine ⟨_, pi_list p, fun σ H ρ Γ L R E A h => ?_⟩
  refine q σ H ρ Γ L _ E A (hbind (ihold_eq h) fun x L1 vx H1 ρ1 e1 r1 A1 h1 => ?_)
  split at h1
  · rename_i it hit
    obtain ⟨a, rfl, ⟨vs, h2, _⟩, h3⟩ := seqI_ok A1 hit r1
    exact ⟨a, rfl, ⟨vs, h2⟩, h1.mk A1 (itok_list h3)⟩
  · exact h1.elim
theorem i3_tup {e : Expr} {f : E3} (he : PE3 X W e f) : PI3 X W tg e (iT f) := by
  obtain ⟨te, p, q⟩ := he
  refine ⟨_, pi_tup p, fun σ H ρ Γ L R E A h => ?_⟩
  refine q σ H ρ Γ L _ E A (hbind (ihold_eq h) fun x L1 vx H1 ρ1 e1 r1 A1 h1 => ?_)
  split at h1
  · rename_i it hit
    obtain ⟨a, rfl, ⟨vs, h2, _⟩, h3⟩ := tupI_ok hit r1
    exact ⟨a, rfl, ⟨vs, h2⟩, h1.mk A1 (itok_tup h3)⟩
  · exact h1.elim
/-- a list or a tuple -/
@[simp] def iLT (f : E3) (Γ : G3) (L : Lh) : R3 It3 := (f Γ L).bind fun x L1 => match tupI x with
  | some it => .val it L1
  | none => (match seqI x L1 with
    | some it => .val it L1
    | none => .stuck)
def iListOrTup (K : PySem.W.Frag) (tl : TE) : TI := fun σ H R => tl σ H fun x H1 => ∃ a, x = .ref a ∧ (((∃ xs, SqL K H1 a xs) ∧ R (Itl K a) H1) ∨ ((∃ xs, SqT K H1 a xs) ∧ R (Itt K a) H1))
theorem pi_lt {l : Expr} {tl : TE} (hl : PE X l tl) : PI X tg l (iListOrTup X.K tl) := by
  refine ⟨fun pins s σ H R I h => ?_⟩
  refine thn (hl.run pins s σ H _ I h) fun v s1 ⟨x, H1, I1, r1, a, e, q⟩ => ?_
  subst e
  cases r1
  rcases q with ⟨⟨xs, hq⟩, q⟩ | ⟨⟨xs, hq⟩, q⟩
  · obtain ⟨its, rv, p, hz⟩ := I1.list hq
    refine wpAny_pyIter_list p.isList ⟨s1.heap.objs.size, [s1.heap.objs.size], _, _, H1, rfl, I1.kept (t' := s1.toks) fun b o e => Heap.get?_push_of_some _ e, turn_list a _, ⟨_, Heap.get?_push_size _ rfl, rfl, rfl⟩, fun b hb => ?_, q⟩
    obtain rfl : b = s1.heap.objs.size := by simpa using hb
    exact I1.fpOk (Nat.le_refl _) (I1.hok.fresh (Nat.le_refl _))
  · obtain ⟨its, rv, p, hz⟩ := I1.tuple hq
    refine wpAny_pyIter_tuple (show s1.heap.IsTuple a its.toArray from p) ⟨s1.heap.objs.size, [s1.heap.objs.size], _, _, H1, rfl, I1.kept (t' := s1.toks) fun b o e => Heap.get?_push_of_some _ e, turn_tuple a _, ⟨_, Heap.get?_push_size _ rfl, rfl, rfl⟩, fun b hb => ?_, q⟩
    obtain rfl : b = s1.heap.objs.size := by simpa using hb
    exact I1.fpOk (Nat.le_refl _) (I1.hok.fresh (Nat.le_refl _))
theorem i3_lt {e : Expr} {f : E3} (he : PE3 X W e f) : PI3 X W tg e (iLT f) := by
  obtain ⟨te, p, q⟩ := he
  refine ⟨_, pi_lt p, fun σ H ρ Γ L R E A h => ?_⟩
  refine q σ H ρ Γ L _ E A (hbind (ihold_eq h) fun x L1 vx H1 ρ1 e1 r1 A1 h1 => ?_)
  split at h1
  · rename_i it hit
    obtain ⟨a, rfl, ⟨vs, h2, _⟩, h3⟩ := tupI_ok hit r1
    exact ⟨a, rfl, .inr ⟨⟨vs, h2⟩, h1.mk A1 (itok_tup h3)⟩⟩
  · split at h1
    · rename_i it hit
      obtain ⟨a, rfl, ⟨vs, h2, _⟩, h3⟩ := seqI_ok A1 hit r1
      exact ⟨a, rfl, .inl ⟨⟨vs, h2⟩, h1.mk A1 (itok_list h3)⟩⟩
    · exact h1.elim
/-! ranges -/
def rngD (lo : Int) (n : Nat) : List D := (List.range n).map fun (i : Nat) => D.int (lo + i)
theorem itok_range {K : PySem.W.Frag} {ρ : List Addr} {H : Hp} {lo : Int} {n : Nat} : ItOk K ρ H (Itr lo n) ⟨rngD lo n, fun _ => True⟩ := by
  have hn : (rngD lo n).length = n := by simp [rngD]
  refine ⟨_, _, (show Walk (Itr lo n) (rngD lo n).length (fun _ => True) (YFn fun i => .int (lo + i)) by rw [hn]; exact walk_range), fun _ _ _ _ _ _ => trivial, fun i ρ' H' L' x H'' hi e A _ hy => ?_⟩
  obtain ⟨rfl, rfl⟩ := hy
  refine ⟨.int (lo + i), ?_, Ext.refl _ _, rfl, A⟩
  have hi' : i < n := by rw [hn] at hi; exact hi
  simp [rngD, hi']
@[simp] def iR1 (g : A3) (Γ : G3) (L : Lh) : R3 It3 := (g Γ L).bind fun as L1 => match as with
  | [.int j] => if -1000000 ≤ j ∧ j ≤ 1000000 then .val ⟨rngD 0 j.toNat, fun _ => True⟩ L1 else .stuck
  | _ => .stuck
theorem i3_range1 {a : Expr} {g : A3} {p : Pos} (hm : X.mg "range" = none) (ha : PA3 X W [a] g) (hg : Gl X "range" := by rfl) (hs : starEach [a] X.env = [(false, eval a X.env)] := by rfl) : PI3 X W tg (.Call (.Name "range" p) [a] [] pos) (iR1 g) := by
  obtain ⟨ta, pa, qa⟩ := ha
  refine ⟨_, pi_range1 hg hm pa hs, fun σ H ρ Γ L R E A h => ?_⟩
  refine qa σ H ρ Γ L _ E A (hbind (ihold_eq h) fun xs L1 vs H1 ρ1 e1 r1 A1 h1 => ?_)
  split at h1
  · split at h1
    · rename_i hb
      obtain ⟨v, rfl, r2⟩ := r1.inv1
      exact ⟨_, by rw [show v = .int _ from r2], by omega, by omega, h1.mk A1 itok_range⟩
    · exact h1.elim
  · exact h1.elim
@[simp] def iR2 (g : A3) (Γ : G3) (L : Lh) : R3 It3 := (g Γ L).bind fun as L1 => match as with
  | [.int i, .int j] => if (-1000000 ≤ i ∧ i ≤ 1000000) ∧ -1000000 ≤ j ∧ j ≤ 1000000 then .val ⟨rngD i (j - i).toNat, fun _ => True⟩ L1 else .stuck
  | _ => .stuck
theorem i3_range2 {a b : Expr} {g : A3} {p : Pos} (hm : X.mg "range" = none) (ha : PA3 X W [a, b] g) (hg : Gl X "range" := by rfl) (hs : starEach [a, b] X.env = [(false, eval a X.env), (false, eval b X.env)] := by rfl) (hs2 : starEach [b] X.env = [(false, eval b X.env)] := by rfl) :
    PI3 X W tg (.Call (.Name "range" p) [a, b] [] pos) (iR2 g) := by
  obtain ⟨ta, pa, qa⟩ := ha
  refine ⟨_, pi_range2 hg hm pa hs hs2, fun σ H ρ Γ L R E A h => ?_⟩
  refine qa σ H ρ Γ L _ E A (hbind (ihold_eq h) fun xs L1 vs H1 ρ1 e1 r1 A1 h1 => ?_)
  split at h1
  · split at h1
    · rename_i hb
      obtain ⟨v, u, rfl, r2, r3⟩ := r1.inv2
      exact ⟨_, _, by rw [show v = .int _ from r2, show u = .int _ from r3], by omega, h1.mk A1 itok_range⟩
    · exact h1.elim
  · exact h1.elim
/-! reversed -/
@[simp] def iRev (f : E3) (Γ : G3) (L : Lh) : R3 It3 := (f Γ L).bind fun x L1 => match tupI x with
  | some it => .val ⟨it.xs.reverse, it.chk⟩ L1
  | none => (match seqI x L1 with
    | some it => .val ⟨it.xs.reverse, it.chk⟩ L1
    | none => .stuck)
theorem rev_at {α : Type} {vs : List α} {n i : Nat} {x : α} (hl : vs.length = n) (hi : i < n) (h : vs[n - 1 - i]? = some x) : vs.reverse[i]? = some x := by
  rw [List.getElem?_reverse (by omega), hl]; exact h
theorem itok_revL {K : PySem.W.Frag} {ρ : List Addr} {H : Hp} {a : Addr} {n : Nat} {it : It3} (hn : it.xs.length = n) (hs : ∀ ρ' H' L', Ext ρ H ρ' H' → Ab K ρ' H' L' → it.chk L' → ∃ vs, SqL K H' a vs ∧ Reps K ρ' H' it.xs vs) : ItOk K ρ H (Itv K a n) ⟨it.xs.reverse, it.chk⟩ := by
  subst hn
  refine itok_seq (S := fun H ws => ∃ vs, SqL K H a vs ∧ ws = vs.reverse) (fun ρ' H' L' e A c => ?_) (fun i H ws hi hw h => ?_) (fun H ws hw h => ?_) fun i H x H' hi hy => ⟨hy.1, fun ws hw h => ?_⟩
  · obtain ⟨us, q1, q2⟩ := hs ρ' H' L' e A c
    exact ⟨us.reverse, ⟨us, q1, rfl⟩, q2.rev⟩
  · obtain ⟨vs, h, rfl⟩ := h
    simp only [List.length_reverse] at hi hw
    exact ⟨hi, vs, vs[it.xs.length - 1 - i]'(by omega), h, List.getElem?_eq_getElem _⟩
  · show it.xs.length ≤ _
    simp
  · obtain ⟨vs, h, rfl⟩ := h
    simp only [List.length_reverse] at hi hw
    exact rev_at hw hi (hy.2 vs h)
theorem itok_revT {K : PySem.W.Frag} {ρ : List Addr} {H : Hp} {a : Addr} {n : Nat} {it : It3} (hn : it.xs.length = n) (hs : ∀ ρ' H' L', Ext ρ H ρ' H' → Ab K ρ' H' L' → it.chk L' → ∃ vs, SqT K H' a vs ∧ Reps K ρ' H' it.xs vs) : ItOk K ρ H (RT.ItvT K a n) ⟨it.xs.reverse, it.chk⟩ := by
  subst hn
  refine itok_seq (S := fun H ws => ∃ vs, SqT K H a vs ∧ ws = vs.reverse) (fun ρ' H' L' e A c => ?_) (fun i H ws hi hw h => ?_) (fun H ws hw h => ?_) fun i H x H' hi hy => ⟨hy.1, fun ws hw h => ?_⟩
  · obtain ⟨us, q1, q2⟩ := hs ρ' H' L' e A c
    exact ⟨us.reverse, ⟨us, q1, rfl⟩, q2.rev⟩
  · obtain ⟨vs, h, rfl⟩ := h
    simp only [List.length_reverse] at hi hw
    exact ⟨hi, vs, vs[it.xs.length - 1 - i]'(by omega), h, List.getElem?_eq_getElem _⟩
  · show it.xs.length ≤ _
    simp
  · obtain ⟨vs, h, rfl⟩ := h
    simp only [List.length_reverse] at hi hw
    exact rev_at hw hi (hy.2 vs h)
theorem i3_rev {e : Expr} {f : E3} {p : Pos} (hm : X.mg "reversed" = none) (he : PE3 X W e f) (hg : Gl X "reversed" := by rfl) (hs : starEach [e] X.env = (false, eval e X.env) :: starEach [] X.env := by rfl) : PI3 X W tg (.Call (.Name "reversed" p) [e] [] pos) (iRev f) := by
  obtain ⟨te, pe, q⟩ := he
  refine ⟨_, RT.pi_revA hg hm pe hs, fun σ H ρ Γ L R E A h => ?_⟩
  refine q σ H ρ Γ L _ E A (hbind (ihold_eq h) fun x L1 vx H1 ρ1 e1 r1 A1 h1 => ?_)
  split at h1
  · rename_i it hit
    obtain ⟨a, rfl, ⟨vs, h2, hl⟩, h3⟩ := tupI_ok hit r1
    exact ⟨a, vs, rfl, .inr ⟨h2, h1.mk A1 (itok_revT hl.symm h3)⟩⟩
  · split at h1
    · rename_i it hit
      obtain ⟨a, rfl, ⟨vs, h2, hl⟩, h3⟩ := seqI_ok A1 hit r1
      exact ⟨a, vs, rfl, .inl ⟨h2, h1.mk A1 (itok_revL hl.symm h3)⟩⟩
    · exact h1.elim
/-! enumerate, zip of lists -/
def enumD (xs : List D) : List D := xs.zipIdx.map fun p => D.tup [.int (p.2 : Nat), p.1]
theorem enumD_len (xs : List D) : (enumD xs).length = xs.length := by simp [enumD]
theorem enumD_at {xs : List D} {i : Nat} {d : D} (h : xs[i]? = some d) : (enumD xs)[i]? = some (.tup [.int (i : Nat), d]) := by
  simp [enumD, List.getElem?_zipIdx, h]
@[simp] def iEn (f : E3) (Γ : G3) (L : Lh) : R3 It3 := (f Γ L).bind fun x L1 => match seqI x L1 with
  | some it => .val ⟨enumD it.xs, it.chk⟩ L1
  | none => .stuck
theorem itok_enum {K : PySem.W.Frag} {ρ : List Addr} {H : Hp} {a : Addr} {it : It3} (hs : ∀ ρ' H' L', Ext ρ H ρ' H' → Ab K ρ' H' L' → it.chk L' → ∃ vs, SqL K H' a vs ∧ Reps K ρ' H' it.xs vs) : ItOk K ρ H (Ite K a) ⟨enumD it.xs, it.chk⟩ := by
  refine itok_pair (n := it.xs.length) (xs := fun i => some (D.int (i : Nat))) (ys := fun i => it.xs[i]?) (S := fun H vs us => vs = (fun i => some (V.int (i : Nat))) ∧ ∃ ws, SqL K H a ws ∧ ws.length = it.xs.length ∧ us = fun i => ws[i]?) (enumD_len _) (fun i x y hi h1 h2 => ?_) (fun ρ' H' L' e A c => ?_) (fun i H vs us hi h => ?_) (fun H vs us h => ?_) fun i H v H' hy => ?_
  · cases h1
    exact enumD_at h2
  · obtain ⟨ws, q1, q2⟩ := hs ρ' H' L' e A c
    exact ⟨_, _, ⟨rfl, ws, q1, q2.length, rfl⟩, fun i v _ h => ⟨_, rfl, by cases h; rfl⟩, fun i v _ h => q2.getV h⟩
  · obtain ⟨rfl, ws, h1, h2, rfl⟩ := h
    exact ⟨ws, ws[i]'(by omega), h1, List.getElem?_eq_getElem _⟩
  · obtain ⟨rfl, ws, h1, h2, rfl⟩ := h
    exact ⟨ws, h1, by omega⟩
  · obtain ⟨T, x, h1, h2, h3, h4⟩ := hy
    refine ⟨T, _, x, h1, h2, h3, fun vs us h => ?_⟩
    obtain ⟨rfl, ws, q1, q2, rfl⟩ := h
    exact ⟨rfl, h4 ws q1⟩
theorem pa_one {e : Expr} {te : TE} (p : PE X e te) (hs : starEach [e] X.env = [(false, eval e X.env)]) : PA X [e] (tCons te tNil) := pa_cons p pa_nil hs
theorem i3_enum {e : Expr} {f : E3} {p tpos : Pos} {elts : List Expr} {kk : Nat} (hm : X.mg "enumerate" = none) (he : PE3 X W e f) (hg : Gl X "enumerate" := by rfl) (hs : starEach [e] X.env = [(false, eval e X.env)] := by rfl) : PI3 X W (.Tuple elts kk tpos) (.Call (.Name "enumerate" p) [e] [] pos) (iEn f) := by
  obtain ⟨te, pe, q⟩ := he
  refine ⟨_, pi_enum hg hm (pa_one pe hs) hs, fun σ H ρ Γ L R E A h => ?_⟩
  refine q σ H ρ Γ L _ E A (hbind (ihold_eq h) fun x L1 vx H1 ρ1 e1 r1 A1 h1 => ?_)
  split at h1
  · rename_i it hit
    obtain ⟨a, rfl, ⟨vs, h2, hl⟩, h3⟩ := seqI_ok A1 hit r1
    exact ⟨a, vs, rfl, h2, h1.mk A1 (itok_enum h3)⟩
  · exact h1.elim
def zipD (xs ys : List D) : List D := List.zipWith (fun x y => D.tup [x, y]) xs ys
theorem zipD_len (xs ys : List D) : (zipD xs ys).length = min xs.length ys.length := by simp [zipD]
theorem zipD_at {xs ys : List D} {i : Nat} {d e : D} (h : xs[i]? = some d) (h2 : ys[i]? = some e) : (zipD xs ys)[i]? = some (.tup [d, e]) := by
  simp [zipD, List.getElem?_zipWith, h, h2]
@[simp] def iZp (f g : E3) (Γ : G3) (L : Lh) : R3 It3 := (f Γ L).bind fun x L1 => (g Γ L1).bind fun y L2 => match seqI x L2, seqI y L2 with
  | some a, some b => .val ⟨zipD a.xs b.xs, fun L => a.chk L ∧ b.chk L⟩ L2
  | _, _ => (match tupI x, tupI y with
    | some a, some b => .val ⟨zipD a.xs b.xs, fun L => a.chk L ∧ b.chk L⟩ L2
    | _, _ => .stuck)
theorem itok_zip {K : PySem.W.Frag} {ρ : List Addr} {H : Hp} {J : L2.It} {a b : It3} {Sq : Hp → List V → Prop} {Sr : Hp → List V → Prop}
    (hs : ∀ ρ' H' L', Ext ρ H ρ' H' → Ab K ρ' H' L' → a.chk L' → ∃ vs, Sq H' vs ∧ Reps K ρ' H' a.xs vs) (hs2 : ∀ ρ' H' L', Ext ρ H ρ' H' → Ab K ρ' H' L' → b.chk L' → ∃ vs, Sr H' vs ∧ Reps K ρ' H' b.xs vs)
    (g : ∀ i H vs us, i < vs.length → i < us.length → Sq H vs → Sr H us → J.go i H) (st : ∀ i H vs us, (vs.length ≤ i ∨ us.length ≤ i) → Sq H vs → Sr H us → J.stop i H)
    (y : ∀ i H v H', J.yld i H v H' → ∃ T x y, v = .ref T ∧ H T = none ∧ H' = upd H T (.tup [x, y]) ∧ (∀ vs, Sq H vs → vs[i]? = some x) ∧ ∀ us, Sr H us → us[i]? = some y) :
    ItOk K ρ H J ⟨zipD a.xs b.xs, fun L => a.chk L ∧ b.chk L⟩ := by
  refine itok_pair (n := min a.xs.length b.xs.length) (xs := fun i => a.xs[i]?) (ys := fun i => b.xs[i]?) (S := fun H vs us => (∃ ws, Sq H ws ∧ ws.length = a.xs.length ∧ vs = fun i => ws[i]?) ∧ ∃ ws, Sr H ws ∧ ws.length = b.xs.length ∧ us = fun i => ws[i]?) (zipD_len _ _) (fun i x y hi h1 h2 => zipD_at h1 h2) (fun ρ' H' L' e A c => ?_) (fun i H vs us hi h => ?_) (fun H vs us h => ?_) fun i H v H' hy => ?_
  · obtain ⟨ws, q1, q2⟩ := hs ρ' H' L' e A c.1
    obtain ⟨zs, q3, q4⟩ := hs2 ρ' H' L' e A c.2
    exact ⟨_, _, ⟨⟨ws, q1, q2.length, rfl⟩, zs, q3, q4.length, rfl⟩, fun i v _ h => q2.getV h, fun i v _ h => q4.getV h⟩
  · obtain ⟨⟨ws, q1, q2, rfl⟩, zs, q3, q4, rfl⟩ := h
    exact g i H ws zs (by omega) (by omega) q1 q3
  · obtain ⟨⟨ws, q1, q2, rfl⟩, zs, q3, q4, rfl⟩ := h
    exact st _ H ws zs (by omega) q1 q3
  · obtain ⟨T, x, y', h1, h2, h3, h4, h5⟩ := y i H v H' hy
    refine ⟨T, x, y', h1, h2, h3, fun vs us h => ?_⟩
    obtain ⟨⟨ws, q1, q2, rfl⟩, zs, q3, q4, rfl⟩ := h
    exact ⟨h4 ws q1, h5 zs q3⟩
theorem i3_zip {e e2 : Expr} {f g : E3} {p tpos : Pos} {elts : List Expr} {kk : Nat} (hm : X.mg "zip" = none) (he : PE3 X W e f) (he2 : PE3 X W e2 g) (hg : Gl X "zip" := by rfl)
    (hs : starEach [e, e2] X.env = (false, eval e X.env) :: starEach [e2] X.env := by rfl) (hs2 : starEach [e2] X.env = (false, eval e2 X.env) :: starEach [] X.env := by rfl) (hpl : (backTo pos (starEach [e2] X.env)).any (·.1) = false := by rfl) :
    PI3 X W (.Tuple elts kk tpos) (.Call (.Name "zip" p) [e, e2] [] pos) (iZp f g) := by
  obtain ⟨te, pe, q⟩ := he
  obtain ⟨te2, pe2, q2⟩ := he2
  refine ⟨_, RZ.pi_zipA hg hm (pa_cons pe (pa_cons pe2 pa_nil hs2) hs) hs hpl, fun σ H ρ Γ L R E A h => ?_⟩
  refine q σ H ρ Γ L _ E A (hbind (ihold_eq h) fun x L1 vx H1 ρ1 e1 r1 A1 h1 => ?_)
  refine q2 σ H1 ρ1 Γ L1 _ (E.mono e1) A1 (hbind h1 fun y L2 vy H2 ρ2 e2 r2 A2 h2 => ?_)
  split at h2
  · rename_i a b ha hb
    obtain ⟨c, rfl, ⟨vs, hv, hl⟩, h3⟩ := seqI_ok A2 ha (Rep.mono e2 x r1)
    obtain ⟨d, rfl, ⟨us, hu, hl2⟩, h4⟩ := seqI_ok A2 hb r2
    refine ⟨c, d, vs, us, rfl, .inl ⟨hv, hu, h2.mk A2 ?_⟩⟩
    exact itok_zip (Sq := fun H ws => SqL X.K H c ws) (Sr := fun H ws => SqL X.K H d ws) h3 h4 (fun i H vs us a b q r => ⟨vs, us, vs[i], us[i], q, r, List.getElem?_eq_getElem a, List.getElem?_eq_getElem b⟩) (fun i H vs us o q r => ⟨vs, us, q, r, o⟩) fun i H v H' hy => hy
  · split at h2
    · rename_i a b ha hb
      obtain ⟨c, rfl, ⟨vs, hv, hl⟩, h3⟩ := tupI_ok ha (Rep.mono e2 x r1)
      obtain ⟨d, rfl, ⟨us, hu, hl2⟩, h4⟩ := tupI_ok hb r2
      refine ⟨c, d, vs, us, rfl, .inr ⟨hv, hu, h2.mk A2 ?_⟩⟩
      exact itok_zip (Sq := fun H ws => SqT X.K H c ws) (Sr := fun H ws => SqT X.K H d ws) h3 h4 (fun i H vs us a b q r => ⟨vs, us, vs[i], us[i], q, r, List.getElem?_eq_getElem a, List.getElem?_eq_getElem b⟩) (fun i H vs us o q r => ⟨vs, us, q, r, o⟩) fun i H v H' hy => hy
    · exact h2.elim
/-! ## raise -/
@[simp] def sRaise (c : Str) (Γ : G3) (L : Lh) : Out := .exn c Γ L
theorem s3_raise {x m : Str} {j : Nat} {p p2 pos2 : Pos} {B newId initId : String} {bmB : List Value} (hc : X.calm = true) (tk : Takes X W) (F : ExcBaseFacts B newId initId bmB) (q : PySem.W.excIn X.K (He.ga X.K x) bmB newId = true) (gC : X.mg x = some (.ref (He.ga X.K x))) (kC : PySem.W.keepIn X.K (.ref (He.ga X.K x)) = true) (r : Raises X (.ref (He.ga X.K x))) (hg : Gl X x := by rfl)
    (hdb : (x == ("__debug__" : Str)) = false := by decide) : PS3 X W (.Raise (some (.Call (.Name x p) [.Constant (.str m) j p2] [] pos)) none pos2) (sRaise x) :=
  ⟨_, ps_raise hc tk (pmk_own F q gC kC r hg hdb), fun σ H ρ Γ L Dn E A h => h σ H ρ (Ext.refl _ _) E A⟩
end
/-- the context of a def's body -/
abbrev cx3 (P : Program) (w : World) (K : PySem.W.Frag) (mg : Str → Option Value) (base : Heap) (N : List Str) (qual : Str) (scope : Scope) (f : Addr) (cd : Value) (A : Around) (outer : List Env) (s : Shared) (H : Hp) (E : XK) : Cx := cxOf (L2.CX P w) P w K mg base N qual scope f cd A outer s H E
theorem fn4 {P : Program} {w : World} {K : PySem.W.Frag} {mg : Str → Option Value} {base : Heap} {x qual : Str} {params : Arguments} {body : List Stmt} {scope : Scope} {dvs : List V} {kws : List (Str × V)} {f : Addr} {fd : FuncData} {N ps : List Str} {k n m : Nat} {t : S3}
    (F : FunD K x qual params body scope dvs kws f fd) (S : FnScope N ps scope) (hps : ps.length = m) (hN : N.length = n)
    (hbody : ∀ (cdv : Value) (A : Around) (outer : List Env) (s : Shared) (H : Hp) (E : XK) (W : WX), Room k (cx3 P w K mg base N qual scope f cdv A outer s H E).A → Takes (cx3 P w K mg base N qual scope f cdv A outer s H E) W →
      PassesOwn (model P w) (cx3 P w K mg base N qual scope f cdv A outer s H E).A (cx3 P w K mg base N qual scope f cdv A outer s H E).env (cx3 P w K mg base N qual scope f cdv A outer s H E).xe → PSs3 (cx3 P w K mg base N qual scope f cdv A outer s H E) W body t) :
    FnOk P w K mg base (L2.CX P w) (k + 1) f fd ps (emb K (run3 m n t)) := by
  refine F.ok S (fun vs H Q E h => ?_) (fun cdv A outer s H vs Q E hr h => ?_)
  · obtain ⟨ds, L, ρ, r, _, h⟩ := h
    unfold run3 at h
    split at h
    · rename_i hl
      rw [hps, Reps.length r]; exact hl
    · exact h.elim
  · obtain ⟨ds, L, ρ, r, Ab0, h⟩ := h
    have hW : Takes (cxOf (L2.CX P w) P w K mg base N qual scope f cdv A outer s H E) (fun c dd _ H => E c dd H) := takes_of rfl rfl rfl rfl
    obtain ⟨ts, p, q⟩ := hbody cdv A outer s H E _ hr hW (passes_of (K := fun e s'' => L2.CX P w outer H s E e s'') rfl)
    refine ⟨ts, p, q _ H ρ _ L _ (env_start r n hN) Ab0 ?_⟩
    unfold run3 at h
    split at h
    · cases ht : t (ds.map some ++ List.replicate (n - ds.length) none) L with
      | nx Γ L' =>
        rw [ht] at h
        have h := trunc_hold Ab0 h
        exact fun σ' H' ρ' e E' A' => h .non H' ρ' e rfl A'
      | ret d L' =>
        rw [ht] at h
        exact trunc_hold Ab0 h
      | exn c Γ L' =>
        rw [ht] at h
        have h := truncX_hold Ab0 h
        exact fun σ' H' ρ' e E' A' => h H' ρ' e A'
      | brk _ _ => rw [ht] at h; exact h.elim
      | ct _ _ => rw [ht] at h; exact h.elim
      | stuck => rw [ht] at h; exact h.elim
    · exact h.elim
/-- a def of the text by its level-3 function -/
structure DefAt (P : Program) (w : World) (K : PySem.W.Frag) (mg : Str → Option Value) (base : Heap) (x : Str) (ps : List Str) (k : Nat) (fn : Fn3) (f : Addr) (fd : FuncData) : Prop where
  ok : FnOk P w K mg base (L2.CX P w) k f fd ps (emb K fn)
  gl : mg x = some (.ref f)
  kp : PySem.W.keepIn K (.ref f) = true
  bi : Binds K fd ps []
def Def3 (P : Program) (w : World) (K : PySem.W.Frag) (mg : Str → Option Value) (base : Heap) (x : Str) (ps : List Str) (k : Nat) (fn : Fn3) : Prop :=
  ∃ (f : Addr) (fd : FuncData), DefAt P w K mg base x ps k fn f fd
theorem def3 {P : Program} {w : World} {K : PySem.W.Frag} {mg : Str → Option Value} {base : Heap} {d : He.DefD} {f : Addr} {fd : FuncData} {N ps : List Str} {k n m : Nat} {t : S3}
    (F : FunD K d.name d.qual d.params d.body d.scope (d.dvs K) (d.kws K) f fd) (hd : d.dfl = []) (hm : mg d.name = some (.ref f)) (S : FnScope N ps d.scope) (hps : ps.length = m) (hN : N.length = n)
    (hbi : ∀ (kV doc pm : Value) (an : Option Addr) (cdv ct : Value) (us : List Value), us.length = ps.length → bindArgs (PySem.W.fnOf d.name d.qual d.params d.body d.scope .none kV doc pm an cdv ct) ⟨us, []⟩ = pure (ps.zip us))
    (hbody : ∀ (cdv : Value) (A : Around) (outer : List Env) (s : Shared) (H : Hp) (E : XK) (W : WX), Room k (cx3 P w K mg base N d.qual d.scope f cdv A outer s H E).A → Takes (cx3 P w K mg base N d.qual d.scope f cdv A outer s H E) W →
      PassesOwn (model P w) (cx3 P w K mg base N d.qual d.scope f cdv A outer s H E).A (cx3 P w K mg base N d.qual d.scope f cdv A outer s H E).env (cx3 P w K mg base N d.qual d.scope f cdv A outer s H E).xe → PSs3 (cx3 P w K mg base N d.qual d.scope f cdv A outer s H E) W d.body t) :
    DefAt P w K mg base d.name ps (k + 1) (run3 m n t) f fd := by
  have e : d.dvs K = [] := by unfold He.DefD.dvs; rw [hd]; rfl
  rw [e] at F
  exact ⟨fn4 F S hps hN hbody, hm, F.kp, F.bindsN hbi⟩
theorem e3_callD {X : Cx} {W : WX} {pos : Pos} {e : Expr} {es : List Expr} {x : Str} {p : Pos} {k j : Nat} {ps : List Str} {fn : Fn3} {g : A3} (D : Def3 X.prog X.w X.K X.mg X.base x ps k fn) (hr : Room j X.A) (tk : Takes X W) (ha : PA3 X W (e :: es) g) (hj : k ≤ j := by decide)
    (hg : Gl X x := by rfl) (hdb : (x == ("__debug__" : Str)) = false := by decide) (hs : starEach (e :: es) X.env = (false, eval e X.env) :: starEach es X.env := by rfl) (hpl : (backTo pos (starEach es X.env)).any (·.1) = false := by rfl) :
    PE3 X W (.Call (.Name x p) (e :: es) [] pos) (eCall fn g) := by
  obtain ⟨f, fd, F, hm, hk, hb⟩ := D
  exact e3_call F (hr.mono hj) hm hk hb tk ha hg hdb hs hpl
/-- names of built-ins that the module leaves alone -/
structure Free (mg : Str → Option Value) : Prop where
  abs : mg "abs" = none
  max : mg "max" = none
  min : mg "min" = none
  int : mg "int" = none
  len : mg "len" = none
  range : mg "range" = none
  enumerate : mg "enumerate" = none
  zip : mg "zip" = none
  reversed : mg "reversed" = none
  list : mg "list" = none
  tuple : mg "tuple" = none
  sum : mg "sum" = none
  any : mg "any" = none
  all : mg "all" = none
  isinstance : mg "isinstance" = none
  divmod : mg "divmod" = none
  str : mg "str" = none
  repr : mg "repr" = none
  bool : mg "bool" = none
def freeFa : List He.Fa := [.free "abs", .free "max", .free "min", .free "int", .free "len", .free "range", .free "enumerate", .free "zip", .free "reversed", .free "list", .free "tuple", .free "sum", .free "any", .free "all", .free "isinstance", .free "divmod", .free "str", .free "repr", .free "bool"]
theorem free_of {K : PySem.W.Frag} {h : Heap} {mg : Str → Option Value} (X : K.In h) (G : h.Ns mainGlobals mg) {fa : List He.Fa} {fn : List He.DefD} (c : He.SaysD fa fn K) (hf : ∀ f ∈ freeFa, f ∈ fa) : Free mg :=
  have z : ∀ x : Str, He.Fa.free x ∈ freeFa → mg x = none := fun x hx => He.free_ok X G (c.facts (hf _ hx))
  ⟨z _ (by simp [freeFa]), z _ (by simp [freeFa]), z _ (by simp [freeFa]), z _ (by simp [freeFa]), z _ (by simp [freeFa]), z _ (by simp [freeFa]), z _ (by simp [freeFa]), z _ (by simp [freeFa]), z _ (by simp [freeFa]), z _ (by simp [freeFa]), z _ (by simp [freeFa]), z _ (by simp [freeFa]), z _ (by simp [freeFa]), z _ (by simp [freeFa]), z _ (by simp [freeFa]), z _ (by simp [freeFa]), z _ (by simp [freeFa]), z _ (by simp [freeFa]), z _ (by simp [freeFa])⟩
/-- the script, at the law's call -/
theorem law_emb {K : PySem.W.Frag} {fn : Fn3} {H : Hp} {a : Addr} {ns : List Int} (h : ∃ L, fn [.rol (ns.map D.int)] [] = .val (.bl true) L) (hO : Only H) (hS : SqL K H a (ns.map V.int)) : emb K fn [.ref a] H (fun v _ => v = .bl true) fun _ _ _ => False := by
  obtain ⟨L, e⟩ := h
  have hr : RoL K H a (ns.map V.int) := by
    rcases hS with (h1 | ⟨o, h1⟩) | h1
    · rcases hO a with z | ⟨o, xs, z⟩
      · rw [z] at h1; cases h1
      · rw [z] at h1; cases h1
    · exact .inl ⟨o, h1⟩
    · exact .inr h1
  have hv : ∀ ns : List Int, Reps K [] H (ns.map D.int) (ns.map V.int) := fun ns => by
    induction ns with
    | nil => rfl
    | cons n ns ih => exact ⟨_, _, rfl, rfl, ih⟩
  refine ⟨[.rol (ns.map D.int)], [], [], ⟨.ref a, [], rfl, ⟨a, _, rfl, hr, hv ns⟩, rfl⟩, ⟨rfl, List.nodup_nil, fun n c e => by simp at e⟩, ?_⟩
  rw [e]
  exact fun v H' ρ' _ r _ => r
/-- the end of a law whose defs may let errors out -/
theorem law_walk {lw : PySem.W.OpenLaw} {n k : Nat} {qq : Program} {ls : List Str} {Xp : (Str → Option Value) → Heap → Prop} {Yp : World → Heap → Prop} {dr : DefRec} {x : Str} {fn : Fn3}
    (hm : lw.most = some n) (hz : n ≤ sizeLine) (hd0 : dr.params.defaults = []) (room : Room k callerA)
    (get : ∀ (w : World) (mg : Str → Option Value) (fa : Addr) (h : Heap), Yp w h → h.Ns mainGlobals mg → mg dr.name = some (.ref fa) → ∃ (K : PySem.W.Frag) (fd : FuncData), K.In h ∧
      (∀ (s : Shared) (u : Value), BindsTo s fd ⟨[u], []⟩ [(x, u)]) ∧ ∀ base : Heap, K.In base → base.Ns mainGlobals mg → FnOk lw.prog w K mg base (L2.CX lw.prog w) k fa fd [x] (emb K fn))
    (holds : ∀ ns : List Int, ns.length ≤ n → ∃ L, fn [.rol (ns.map D.int)] [] = .val (.bl true) L) :
    PySem.W.WalkO qq ls Xp Yp lw.row.toRowW dr [] (fun f vs => PySem.call f vs) := by
  refine Att.attach_call hm hd0 ?_
  intro w t0 t1 mg mb fa ob m1 m2 m3 ad us js Gd Yd e1 e2 e3 e4 e5 e6 e7 e8
  obtain ⟨K, fd, inK, bnd, ok⟩ := get w mg fa _ Yd Gd.T.g e4
  refine law_call inK Gd.T.g Gd.T.b Gd.T.builtins Gd.T.nolimit e8 e5 e6
    (Nat.le_trans e7 hz) room ok bnd
    (fun H only sq => law_emb (holds js e7) only sq) ?_
  intro H ev t' z
  obtain ⟨_, _, _, _, _, _, _, _, _, _, _, _, y⟩ := z
  exact y.elim
/-! ## rules for reasoning about loops -/
theorem sWhile_inv {c : T3} {b : S3} (I : Nat → G3 → Lh → Prop) (Post : Out → Prop) (hp : ¬ Post .stuck)
    (step : ∀ m Γ L, I m Γ L → (∃ L1, c Γ L = .val false L1 ∧ Post (.nx Γ L1)) ∨ (∃ L1, c Γ L = .val true L1 ∧ ((∃ Γ2 L2 m', (b Γ L1 = .nx Γ2 L2 ∨ b Γ L1 = .ct Γ2 L2) ∧ m' < m ∧ I m' Γ2 L2) ∨ (∃ d L2, b Γ L1 = .ret d L2 ∧ Post (.ret d L2)) ∨ (∃ Γ2 L2, b Γ L1 = .brk Γ2 L2 ∧ Post (.nx Γ2 L2))))) :
    ∀ m Γ L, I m Γ L → Post (sWhile c b Γ L) := by
  have key : ∀ m Γ L, I m Γ L → ∃ n o, wN n c b Γ L = o ∧ Post o := by
    intro m
    induction m using Nat.strongRecOn with
    | ind m ih =>
      intro Γ L h
      rcases step m Γ L h with ⟨L1, h1, h2⟩ | ⟨L1, h1, ⟨Γ2, L2, m', h2, h3, h4⟩ | ⟨d, L2, h2, h3⟩ | ⟨Γ2, L2, h2, h3⟩⟩
      · exact ⟨1, _, by simp only [wN, wStep, h1, R3.out]; rfl, h2⟩
      · obtain ⟨n, o, e1, e2⟩ := ih m' h3 Γ2 L2 h4
        refine ⟨n + 1, o, ?_, e2⟩
        rcases h2 with h2 | h2 <;> (simp only [wN, wStep, h1, R3.out, if_true, h2]; exact e1)
      · exact ⟨1, _, by simp only [wN, wStep, h1, R3.out, if_true, h2], h3⟩
      · exact ⟨1, _, by simp only [wN, wStep, h1, R3.out, if_true, h2], h3⟩
  intro m Γ L h
  obtain ⟨n, o, e1, e2⟩ := key m Γ L h
  have ho : o ≠ .stuck := fun z => hp (z ▸ e2)
  rw [sWhile_eq n e1 ho]
  exact e2
theorem forL_inv {chk : Lh → Prop} {g : Tg3} {b : S3} (I : List D → G3 → Lh → Prop) (Post : Out → Prop)
    (hn : ∀ Γ L, I [] Γ L → chk L ∧ Post (.nx Γ L))
    (step : ∀ x r Γ L, I (x :: r) Γ L → chk L ∧ ∃ Γ1 L1, g x Γ L = .nx Γ1 L1 ∧ ((∃ Γ2 L2, (b Γ1 L1 = .nx Γ2 L2 ∨ b Γ1 L1 = .ct Γ2 L2) ∧ I r Γ2 L2) ∨ (∃ d L2, b Γ1 L1 = .ret d L2 ∧ Post (.ret d L2)) ∨ (∃ Γ2 L2, b Γ1 L1 = .brk Γ2 L2 ∧ Post (.nx Γ2 L2)))) :
    ∀ xs Γ L, I xs Γ L → Post (forL chk g b xs Γ L)
  | [], Γ, L, h => by
    obtain ⟨h1, h2⟩ := hn Γ L h
    rw [forL, if_pos h1]; exact h2
  | x :: r, Γ, L, h => by
    obtain ⟨h1, Γ1, L1, h2, h3⟩ := step x r Γ L h
    rw [forL, if_pos h1, h2]
    rcases h3 with ⟨Γ2, L2, h3, h4⟩ | ⟨d, L2, h3, h4⟩ | ⟨Γ2, L2, h3, h4⟩
    · rcases h3 with h3 | h3 <;> (simp only [h3]; exact forL_inv I Post hn step r Γ2 L2 h4)
    · simp only [h3]; exact h4
    · simp only [h3]; exact h4
/-- a comprehension's loop: n the place of the list that is made; acc what it holds so far -/
theorem lcL_inv {chk : Lh → Prop} {g : Tg3} {t : T3} {e : E3} {Γ0 : G3} {n : Nat} (I : List D → Lh → Prop) (Post : Lh → Prop)
    (hn : ∀ L, I [] L → chk L ∧ Post L)
    (step : ∀ x r L, I (x :: r) L → chk L ∧ ∃ Γ1 L1, g x Γ0 L = .nx Γ1 L1 ∧ ((∃ L2 y L3 acc, t Γ1 L1 = .val true L2 ∧ e Γ1 L2 = .val y L3 ∧ L3[n]? = some (.lst acc) ∧ acc.length ≤ 100000 ∧ I r (L3.set n (.lst (acc ++ [y])))) ∨ ∃ L2, t Γ1 L1 = .val false L2 ∧ I r L2)) :
    ∀ xs L, I xs L → ∃ L', lcL chk g t e Γ0 n xs L = .val (.loc n) L' ∧ Post L'
  | [], L, h => by
    obtain ⟨h1, h2⟩ := hn L h
    exact ⟨L, by rw [lcL, if_pos h1], h2⟩
  | x :: r, L, h => by
    obtain ⟨h1, Γ1, L1, h2, ⟨L2, y, L3, acc, h3, h4, h5, h6, h7⟩ | ⟨L2, h3, h4⟩⟩ := step x r L h
    · obtain ⟨L', q1, q2⟩ := lcL_inv I Post hn step r _ h7
      exact ⟨L', by rw [lcL, if_pos h1, h2]; simp only [h3, h4, h5, if_pos h6]; exact q1, q2⟩
    · obtain ⟨L', q1, q2⟩ := lcL_inv I Post hn step r _ h4
      exact ⟨L', by rw [lcL, if_pos h1, h2]; simp only [h3]; exact q1, q2⟩
theorem set_append_last {L : Lh} {c d : Cell} : (L ++ [c]).set L.length d = L ++ [d] := by
  rw [List.set_append]; simp
/-- a comprehension that only reads: its list is the map -/
theorem lcL_map {chk : Lh → Prop} {g : Tg3} {e : E3} {Γ0 : G3} {L : Lh} {f : D → D} (Γf : D → G3) (xs : List D) (hl : xs.length ≤ 100000) (hc : ∀ acc, chk (L ++ [.lst acc]))
    (hg : ∀ x acc, x ∈ xs → g x Γ0 (L ++ [.lst acc]) = .nx (Γf x) (L ++ [.lst acc])) (he : ∀ x acc, x ∈ xs → e (Γf x) (L ++ [.lst acc]) = .val (f x) (L ++ [.lst acc])) :
    ∀ acc : List D, acc.length + xs.length ≤ 100000 → lcL chk g tTrue e Γ0 L.length xs (L ++ [.lst acc]) = .val (.loc L.length) (L ++ [.lst (acc ++ xs.map f)]) := by
  induction xs with
  | nil => intro acc _; rw [lcL, if_pos (hc acc)]; simp
  | cons x r ih =>
    intro acc h
    rw [lcL, if_pos (hc acc), hg x acc (by simp)]
    have hget : (L ++ [Cell.lst acc])[L.length]? = some (.lst acc) := by simp
    simp only [List.length_cons] at h
    simp only [tTrue, he x acc (by simp), hget]
    rw [if_pos (by omega), set_append_last]
    have ih' := ih (by omega) (fun y a hy => hg y a (by simp [hy])) (fun y a hy => he y a (by simp [hy])) (acc ++ [f x]) (by simp; omega)
    rw [ih']
    simp
/-- .. with a test -/
theorem lcL_filter {chk : Lh → Prop} {g : Tg3} {t : T3} {e : E3} {Γ0 : G3} {L : Lh} {f : D → D} {p : D → Bool} (Γf : D → G3) (xs : List D) (hl : xs.length ≤ 100000) (hc : ∀ acc, chk (L ++ [.lst acc]))
    (hg : ∀ x acc, x ∈ xs → g x Γ0 (L ++ [.lst acc]) = .nx (Γf x) (L ++ [.lst acc])) (ht : ∀ x acc, x ∈ xs → t (Γf x) (L ++ [.lst acc]) = .val (p x) (L ++ [.lst acc])) (he : ∀ x acc, x ∈ xs → p x = true → e (Γf x) (L ++ [.lst acc]) = .val (f x) (L ++ [.lst acc])) :
    ∀ acc : List D, acc.length + xs.length ≤ 100000 → lcL chk g t e Γ0 L.length xs (L ++ [.lst acc]) = .val (.loc L.length) (L ++ [.lst (acc ++ (xs.filter p).map f)]) := by
  induction xs with
  | nil => intro acc _; rw [lcL, if_pos (hc acc)]; simp
  | cons x r ih =>
    intro acc h
    rw [lcL, if_pos (hc acc), hg x acc (by simp)]
    have hget : (L ++ [Cell.lst acc])[L.length]? = some (.lst acc) := by simp
    simp only [List.length_cons] at h
    simp only [ht x acc (by simp)]
    have ih0 := ih (by omega) (fun y a hy => hg y a (by simp [hy])) (fun y a hy => ht y a (by simp [hy])) (fun y a hy => he y a (by simp [hy]))
    cases hp : p x with
    | true =>
      simp only [he x acc (by simp) hp, hget]
      rw [if_pos (by omega), set_append_last, ih0 (acc ++ [f x]) (by simp; omega)]
      simp [hp]
    | false =>
      simp only []
      rw [ih0 acc (by omega)]
      simp [hp]
/-! ## methods of lists -/
section
variable {L : Lh} {n m : Nat} {xs ys : List D} {d : D}
theorem isTy_list (h : L[n]? = some (.lst xs)) : isTy "list" (.loc n) L = true := by unfold isTy; simp only [h]; rfl
theorem mAppend_eq (h : L[n]? = some (.lst xs)) (hl : xs.length ≤ 100000) : mAppend (.loc n) [d] L = .val .non (L.set n (.lst (xs ++ [d]))) := by
  unfold mAppend onL; simp only [h]; rw [if_pos hl]
theorem mExtend_eq (h : L[n]? = some (.lst xs)) (h2 : L[m]? = some (.lst ys)) (hl : xs.length + ys.length ≤ 100000) : mExtend (.loc n) [.loc m] L = .val .non (L.set n (.lst (xs ++ ys))) := by
  unfold mExtend onL; simp only [h, h2]; rw [if_pos hl]
theorem mInsert_eq {i : Nat} (h : L[n]? = some (.lst xs)) (hl : xs.length ≤ 100000) (hi : i ≤ 100000) : mInsert (.loc n) [.int i, d] L = .val .non (L.set n (.lst (xs.take i ++ [d] ++ xs.drop i))) := by
  unfold mInsert onL; simp only [h]; rw [if_pos (by omega)]; rfl
theorem mPop_eq (h : L[n]? = some (.lst (xs ++ [d]))) : mPop (.loc n) [] L = .val d (L.set n (.lst xs)) := by
  unfold mPop onL; simp only [h]; simp
theorem mClear_eq (h : L[n]? = some (.lst xs)) : mClear (.loc n) [] L = .val .non (L.set n (.lst [])) := by
  unfold mClear onL; simp only [h]
theorem mReverse_eq (h : L[n]? = some (.lst xs)) : mReverse (.loc n) [] L = .val .non (L.set n (.lst xs.reverse)) := by
  unfold mReverse onL; simp only [h]
end
/-! ## what a call hands back -/
theorem run3_ret {k n : Nat} {t : S3} {ds : List D} {L L' : Lh} {d : D} (h : ds.length = k) (e : t (ds.map some ++ List.replicate (n - ds.length) none) L = .ret d L') : run3 k n t ds L = trunc L d L' := by unfold run3; rw [if_pos h, e]
theorem run3_nx {k n : Nat} {t : S3} {ds : List D} {L L' : Lh} {Γ : G3} (h : ds.length = k) (e : t (ds.map some ++ List.replicate (n - ds.length) none) L = .nx Γ L') : run3 k n t ds L = trunc L .non L' := by unfold run3; rw [if_pos h, e]
theorem run3_exn {k n : Nat} {t : S3} {ds : List D} {L L' : Lh} {Γ : G3} {c : Str} (h : ds.length = k) (e : t (ds.map some ++ List.replicate (n - ds.length) none) L = .exn c Γ L') : run3 k n t ds L = truncX L c L' := by unfold run3; rw [if_pos h, e]
theorem run_ret {k n : Nat} {t : S3} {ds : List D} {L L' : Lh} {d : D} {Γ0 : G3} {r : R3 D} (h0 : ds.map some ++ List.replicate (n - ds.length) none = Γ0) (hk : ds.length = k) (e : t Γ0 L = .ret d L') (ht : trunc L d L' = r) : run3 k n t ds L = r := by
  subst h0; rw [run3_ret hk e]; exact ht
theorem run_nx {k n : Nat} {t : S3} {ds : List D} {L L' : Lh} {Γ0 Γ1 : G3} {r : R3 D} (h0 : ds.map some ++ List.replicate (n - ds.length) none = Γ0) (hk : ds.length = k) (e : t Γ0 L = .nx Γ1 L') (ht : trunc L .non L' = r) : run3 k n t ds L = r := by
  subst h0; rw [run3_nx hk e]; exact ht
theorem run_exn {k n : Nat} {t : S3} {ds : List D} {L L' : Lh} {Γ0 Γ1 : G3} {c : Str} {r : R3 D} (h0 : ds.map some ++ List.replicate (n - ds.length) none = Γ0) (hk : ds.length = k) (e : t Γ0 L = .exn c Γ1 L') (ht : truncX L c L' = r) : run3 k n t ds L = r := by
  subst h0; rw [run3_exn hk e]; exact ht
theorem seq_nx {t u : S3} {Γ Γ1 : G3} {L L1 : Lh} (h : t Γ L = .nx Γ1 L1) : sSeq t u Γ L = u Γ1 L1 := by unfold sSeq; rw [h]
theorem seq_ret {t u : S3} {Γ : G3} {L L1 : Lh} {d : D} (h : t Γ L = .ret d L1) : sSeq t u Γ L = .ret d L1 := by unfold sSeq; rw [h]
theorem seq_exn {t u : S3} {Γ Γ1 : G3} {L L1 : Lh} {c : Str} (h : t Γ L = .exn c Γ1 L1) : sSeq t u Γ L = .exn c Γ1 L1 := by unfold sSeq; rw [h]
/-- an answer without lists of its own, the cells as they were -/
theorem trunc_flat {L G : Lh} {d : D} (h : closed L.length d = true) : trunc L d (L ++ G) = .val d L := by
  unfold trunc; rw [if_pos (by simp), if_pos h]
theorem trunc_same {L : Lh} {d : D} (h : closed L.length d = true) : trunc L d L = .val d L := by
  unfold trunc; rw [if_pos (by simp), if_pos h]
/-- a new list -/
theorem trunc_new {L L' : Lh} {m : Nat} {xs : List D} (h1 : L'.take L.length = L) (hm : L.length ≤ m) (h2 : L'[m]? = some (.lst xs)) (h3 : closeds L.length xs = true) : trunc L (.loc m) L' = .val (.loc L.length) (L ++ [.lst xs]) := by
  unfold trunc
  rw [if_pos h1, if_neg (by simp [closed]; omega)]
  simp only [h2, if_pos h3]
theorem truncX_eq {L G : Lh} {c : Str} : truncX L c (L ++ G) = .exn c L := by
  unfold truncX; rw [if_pos (by simp)]
/-- cells changed -/
theorem trunc_other {L L' : Lh} {d : D} (h : L'.take L.length ≠ L) : trunc L d L' = .val d L' := by
  unfold trunc; rw [if_neg h]
/-! enumerate over a tuple -/
theorem enum1_new {v : Value} {o : Obj} {Hh : Heap → Prop} (B : Begins v o Hh) :
    Meets (Builtin.«enumerate.__new__» ⟨[.type "enumerate", v], []⟩) (fun _ R s => Hh s.heap ∧
      R (.ok (.ret (.ref (s.heap.push o).objs.size)))
        { s with heap := (s.heap.push o).push { cls := .type "enumerate", data := .fields #[.none, .bool false, .ref s.heap.objs.size, rawInt 0, .none, .none] } }) :=
  .of_wp fun prog w A R s h => by
    obtain ⟨h0, g0, d0, t0, o0⟩ := s
    obtain ⟨hb, h⟩ := h
    have hsub := sub_enumerate
    have walk : ∀ {A' : Around} {E : Value → Shared → Prop} {Q : Value → Shared → Prop}, Q (.ref h0.objs.size) ⟨h0.push o, g0, d0, t0, o0⟩ →
        wpAny (model prog w) A' (pyIter v) Q E ⟨h0, g0, d0, t0, o0⟩ := fun q => B.iter prog w _ _ ⟨h0, g0, d0, t0, o0⟩ _ hb q
    wp_walk using walk
    refine wpAny_stack_any fun st => wpAny_pure ?_
    split
    · rename_i c _ _ _ _ _
      cases (c == Value.type "enumerate") <;> (wp_walk using walk; exact ⟨_, rfl, h⟩)
    · wp_walk using walk
      exact ⟨_, rfl, h⟩
theorem enum1_begins {prog : Program} {w : World} {A : Around} {E : Value → Shared → Prop} {s : Shared} {v : Value} {o : Obj} {Hh : Heap → Prop} {Q : Value → Shared → Prop} (B : Begins v o Hh) (h1 : Hh s.heap)
    (h : ∀ h', IsEnum h' (s.heap.objs.size + 1) s.heap.objs.size 0 .none → h'.get? s.heap.objs.size = some o → h'.objs.size = s.heap.objs.size + 2 →
      (∀ b u, s.heap.get? b = some u → h'.get? b = some u) → Q (.ref (s.heap.objs.size + 1)) { s with heap := h' }) :
    wpAny (model prog w) A (call (.type "enumerate") [v]) Q E s := by
  refine callType_new F.called_enumerate (by decide) (F.typeCall_enumerate_1 _) (F.newCall_enumerate_1 _)
    (fun ob => F.args_object_init_2 ob _) F.entry_enumerate_new (enum1_new B) ⟨h1, ?_⟩
  have z1 : (s.heap.push o).objs.size = s.heap.objs.size + 1 := Heap.size_push ..
  show _ ∧ _
  rw [z1]
  have en : IsEnum ((s.heap.push o).push { cls := .type "enumerate", data := .fields #[.none, .bool false, .ref s.heap.objs.size, rawInt 0, .none, .none] }) (s.heap.objs.size + 1) s.heap.objs.size 0 .none := by
    have q := Heap.get?_push_size (s.heap.push o) (o := { cls := .type "enumerate", data := .fields #[.none, .bool false, .ref s.heap.objs.size, rawInt 0, .none, .none] }) rfl
    rw [z1] at q
    exact q
  exact ⟨⟨_, en, rfl⟩, h _ en (Heap.get?_push_of_some _ (Heap.get?_push_size _ B.free)) (by rw [Heap.size_push, z1]) fun b u x => Heap.get?_push_of_some _ (Heap.get?_push_of_some _ x)⟩
def ItEnT (K : PySem.W.Frag) (a : Addr) : L2.It :=
  ⟨fun i H => ∃ (xs : List V) (x : V), SqT K H a xs ∧ xs[i]? = some x,
   fun i H v H' => ∃ T x, v = .ref T ∧ H T = none ∧ H' = upd H T (.tup [.int (i : Nat), x]) ∧ ∀ xs, SqT K H a xs → xs[i]? = some x,
   fun i H => ∃ xs : List V, SqT K H a xs ∧ xs.length ≤ i⟩
theorem turn_enT {P : Program} {w : World} {K : PySem.W.Frag} {elts : List Expr} {kk : Nat} {tpos : Pos} (a e it : Addr) (hat : a ≠ it) (hae : a ≠ e) :
    Turn P w K (.Tuple elts kk tpos) (ItEnT K a) [e, it] e (fun i h => (∃ old, IsEnum h e it ((i : Nat) : Int) old) ∧ h.IsTupleIter it a i ∧ e ≠ it) where
  mem := by simp
  obj := fun i h st b hb => by
    obtain ⟨⟨old, he⟩, ⟨ob, ho, hc, hd⟩, _⟩ := st
    rcases (show b = e ∨ b = it by simpa using hb) with rfl | rfl
    · exact ⟨_, he, fun v q => nomatch q⟩
    · exact ⟨ob, ho, fun v q => by rw [hd] at q; cases q⟩
  keep := fun i h h' st k => let ⟨⟨old, he⟩, hi, hne⟩ := st; ⟨⟨old, k e (by simp) _ he⟩, hi.at fun ob q => k it (by simp) ob q, hne⟩
  item := by
    intro X hP hw hK hc i pins s σ H E I hf st hg
    subst hP hw hK
    obtain ⟨⟨old, he⟩, hit, hne⟩ := st
    obtain ⟨xs, x, hq, hx⟩ := hg
    obtain ⟨its, rv, p, hz⟩ := I.tuple hq
    obtain ⟨u, hu, ru⟩ := rv.get hx
    have hel : e < s.heap.objs.size := Heap.lt_size he
    have hil : it < s.heap.objs.size := by obtain ⟨_, q, _⟩ := hit; exact Heap.lt_size q
    have hlt : i < its.toArray.size := by
      have := (List.getElem?_eq_some_iff.mp hu).1
      simpa using this
    have DT := Draws.tuple (prog := X.prog) (w := X.w) (A := X.A.in1) (I.ok.hd hc) it a hat its.toArray
    have hef : e ∉ [it, a] := by
      simp only [List.mem_cons, List.not_mem_nil, or_false, not_or]
      exact ⟨hne, Ne.symm hae⟩
    refine wpAny_pyNext_enum_itemD DT he ⟨hit, p⟩ hlt hne hef fun y h' tk py ho st2 hT hsz hk => ?_
    obtain rfl : y = u := by
      have q : its.toArray[i]? = some y := py
      have q2 : its[i]? = some y := by simpa using q
      rw [hu] at q2; exact (Option.some.inj q2).symm
    refine ⟨_, rfl, wpAny_letOwnedTupleGo_enum (s := { s with heap := h', toks := tk + 1 }) ho fun h'' he' sb => ?_⟩
    have hT2 : h''.get? s.heap.objs.size = some { cls := .type "tuple", data := .seq #[.int i tk, y] } := (sb.2 _ (Nat.ne_of_gt hel)).trans hT
    have new : ObjOk X.prog X.w (upd H s.heap.objs.size (.tup [.int (i : Nat), x])) h'' s.heap.objs.size (.tup [.int (i : Nat), x]) :=
      ⟨by show 2 ≤ sizeLine; decide, [.int i tk, y], .cons ⟨_, rfl⟩ (.cons ru .nil), ⟨_, hT2, rfl, _, rfl⟩⟩
    have I1 : Inv X pins σ (upd H s.heap.objs.size (.tup [.int (i : Nat), x])) { s with heap := h'', toks := tk + 1 } :=
      I.turnedNew (ch := [e, it]) (fun b ob hb q => (sb.2 b (fun z => hb (by simp [z]))).trans (hk b ob (fun z => hb (by simp [z])) (fun z => hb (by simp [z])) q)) hf (Nat.le_refl _) new
    refine ⟨.ref s.heap.objs.size, _, I1, rfl, ⟨_, x, rfl, I.hok.fresh (Nat.le_refl _), rfl, fun ys hy => by rw [I.tuple_inj hy hq]; exact hx⟩, ⟨⟨y, ?_⟩, st2.1.at fun ob q => (sb.2 it (Ne.symm hne)).trans q, hne⟩, fun b hb => ?_⟩
    · rw [show ((i + 1 : Nat) : Int) = (i : Int) + 1 by omega]
      exact he'
    · have hb' : b < s.heap.objs.size := by
        rcases (show b = e ∨ b = it by simpa using hb) with rfl | rfl
        · exact hel
        · exact hil
      rw [upd_ne (Nat.ne_of_lt hb')]
      exact (hf b hb).1
  done := by
    intro X hP hw hK hc i pins s σ H E I hf st hg
    subst hP hw hK
    obtain ⟨⟨old, he⟩, hit, hne⟩ := st
    obtain ⟨xs, hq, hx⟩ := hg
    obtain ⟨its, rv, p, hz⟩ := I.tuple hq
    obtain ⟨f0, f1, f2, f3, f4, f5⟩ := hf it (by simp)
    have hl := rv.length
    have DT := Draws.tuple (prog := X.prog) (w := X.w) (A := X.A.in1) (I.ok.hd hc) it a hat its.toArray
    have hT : s.TypeIs (.ref e) "enumerate" := ⟨_, he, rfl⟩
    unfold pyNext
    refine wpAny_bind (wpAny_attempt (wpAny_callSpecial?_slot (name := Str.ofString "__next__") hT F.slot_enumerate_next
      (wpAny_call_entry F.slot_enumerate_next hT F.entry_enumerate_next ?_ (F.args_enumerate_next_1 _))))
    show wpAny _ _ (field (.ref e) 2 >>= _) _ _ _
    refine wpAny_bind (wpAny_field he rfl (x := .ref it) rfl ?_)
    refine wpAny_bind (wpAny_nextOf_tuple_end (I.ok.hd hc) hit (show s.heap.IsTuple a its.toArray from p) (by simp; omega) fun h' x he' hx' => ?_)
    obtain ⟨ob, ho, hcl⟩ := hx'
    refine wpAny_bind (wpAny_isInstance (T := "StopIteration") (b := true) ⟨ob, ho, hcl⟩ isSubtype_stop ?_)
    exact wpAny_pure ⟨rfl, I.turned (t' := s.toks) (fun b u hb q => he' b u hb q) f0 f1 f3 f4 f5⟩
  self := fun A i s Q E st h => let ⟨⟨_, he⟩, _⟩ := st; wpAny_pyIter_enum he h
def iEnumT (K : PySem.W.Frag) (te : TE) : TI := fun σ H R => te σ H fun v H1 => ∃ a xs, v = .ref a ∧ ((SqL K H1 a xs ∧ R (Ite K a) H1) ∨ (SqT K H1 a xs ∧ R (ItEnT K a) H1))
theorem pi_enumT {X : Cx} {e : Expr} {te : TE} {p pos tpos : Pos} {elts : List Expr} {kk : Nat} (hg : Gl X "enumerate") (hm : X.mg "enumerate" = none) (he : PE X e te) (hs : starEach [e] X.env = [(false, eval e X.env)]) :
    PI X (.Tuple elts kk tpos) (.Call (.Name "enumerate" p) [e] [] pos) (iEnumT X.K te) := by
  refine ⟨fun pins s σ H R I h => ?_⟩
  have ha : PA X [e] (tCons te tNil) := pa_cons he pa_nil hs
  let body : V → Hp → Prop := fun v H1 => ∃ a xs, v = .ref a ∧ ((SqL X.K H1 a xs ∧ R (Ite X.K a) H1) ∨ (SqT X.K H1 a xs ∧ R (ItEnT X.K a) H1))
  let Qa : List V → Hp → Prop := fun vs H1 => match vs with
    | [v] => body v H1
    | _ => False
  refine Call_ (ld_blt I hg hm boot_enumerate (PyProof.Rows.callWith_type1 (thn (ha.run pos pins s σ H Qa I h) fun us s1 ⟨vs, H1, I1, r1, q1⟩ => ?_) hs rfl))
  have q1' : ∃ v, vs = [v] ∧ body v H1 := by
    match vs, q1 with
    | [v], q => exact ⟨v, rfl, q⟩
  obtain ⟨v, rfl, a, xs, rfl, q⟩ := q1'
  · skip
    cases r1 with
    | cons r rr =>
      cases rr
      cases r
      have fresh : ∀ (b : Addr) (h' : Heap), (b = s1.heap.objs.size + 1 ∨ b = s1.heap.objs.size) → FpOk X pins H1 b := fun b h' e' => by
        have hle : s1.heap.objs.size ≤ b := by
          rcases e' with z | z
          · rw [z]; exact Nat.le_succ _
          · rw [z]; exact Nat.le_refl _
        exact I1.fpOk hle (I1.hok.fresh hle)
      rcases q with ⟨hq, q⟩ | ⟨hq, q⟩
      · obtain ⟨its, rv, p', hz⟩ := I1.list hq
        refine call_enumerate_list p'.isList fun h' he hit hsz hk => wpAny_pyIter_enum he ?_
        exact ⟨s1.heap.objs.size + 1, [s1.heap.objs.size + 1, s1.heap.objs.size], _, _, H1, rfl, I1.kept (t' := s1.toks) hk, turn_enum a (s1.heap.objs.size + 1) s1.heap.objs.size, ⟨⟨.none, he⟩, hit, Nat.succ_ne_self _⟩, fun b hb => fresh b h' (by simpa using hb), q⟩
      · obtain ⟨its, rv, p', hz⟩ := I1.tuple hq
        have hal : a < s1.heap.objs.size := p'.lt
        refine enum1_begins (begins_tuple a its.toArray) p' fun h' he hit hsz hk => wpAny_pyIter_enum he ?_
        exact ⟨s1.heap.objs.size + 1, [s1.heap.objs.size + 1, s1.heap.objs.size], _, _, H1, rfl, I1.kept (t' := s1.toks) hk, turn_enT a (s1.heap.objs.size + 1) s1.heap.objs.size (Nat.ne_of_lt hal) (Nat.ne_of_lt (Nat.lt_succ_of_lt hal)), ⟨⟨.none, he⟩, ⟨_, hit, rfl, rfl⟩, Nat.succ_ne_self _⟩, fun b hb => fresh b h' (by simpa using hb), q⟩
section
variable {X : Cx} {W : WX} {pos : Pos}
def iEnB (f : E3) (Γ : G3) (L : Lh) : R3 It3 := (f Γ L).bind fun x L1 => match tupI x with
  | some it => .val ⟨enumD it.xs, it.chk⟩ L1
  | none => (match seqI x L1 with
    | some it => .val ⟨enumD it.xs, it.chk⟩ L1
    | none => .stuck)
theorem itok_enumT {K : PySem.W.Frag} {ρ : List Addr} {H : Hp} {a : Addr} {it : It3} (hs : ∀ ρ' H' L', Ext ρ H ρ' H' → Ab K ρ' H' L' → it.chk L' → ∃ vs, SqT K H' a vs ∧ Reps K ρ' H' it.xs vs) : ItOk K ρ H (ItEnT K a) ⟨enumD it.xs, it.chk⟩ := by
  refine itok_pair (n := it.xs.length) (xs := fun i => some (D.int (i : Nat))) (ys := fun i => it.xs[i]?) (S := fun H vs us => vs = (fun i => some (V.int (i : Nat))) ∧ ∃ ws, SqT K H a ws ∧ ws.length = it.xs.length ∧ us = fun i => ws[i]?) (enumD_len _) (fun i x y hi h1 h2 => ?_) (fun ρ' H' L' e A c => ?_) (fun i H vs us hi h => ?_) (fun H vs us h => ?_) fun i H v H' hy => ?_
  · cases h1
    exact enumD_at h2
  · obtain ⟨ws, q1, q2⟩ := hs ρ' H' L' e A c
    exact ⟨_, _, ⟨rfl, ws, q1, q2.length, rfl⟩, fun i v _ h => ⟨_, rfl, by cases h; rfl⟩, fun i v _ h => q2.getV h⟩
  · obtain ⟨rfl, ws, h1, h2, rfl⟩ := h
    exact ⟨ws, ws[i]'(by omega), h1, List.getElem?_eq_getElem _⟩
  · obtain ⟨rfl, ws, h1, h2, rfl⟩ := h
    exact ⟨ws, h1, by omega⟩
  · obtain ⟨T, x, h1, h2, h3, h4⟩ := hy
    refine ⟨T, _, x, h1, h2, h3, fun vs us h => ?_⟩
    obtain ⟨rfl, ws, q1, q2, rfl⟩ := h
    exact ⟨rfl, h4 ws q1⟩
theorem i3_enumB {e : Expr} {f : E3} {p tpos : Pos} {elts : List Expr} {kk : Nat} (hm : X.mg "enumerate" = none) (he : PE3 X W e f) (hg : Gl X "enumerate" := by rfl) (hs : starEach [e] X.env = [(false, eval e X.env)] := by rfl) : PI3 X W (.Tuple elts kk tpos) (.Call (.Name "enumerate" p) [e] [] pos) (iEnB f) := by
  obtain ⟨te, pe, q⟩ := he
  refine ⟨_, pi_enumT hg hm pe hs, fun σ H ρ Γ L R E A h => ?_⟩
  refine q σ H ρ Γ L _ E A (hbind (ihold_eq h) fun x L1 vx H1 ρ1 e1 r1 A1 h1 => ?_)
  split at h1
  · rename_i it hit
    obtain ⟨a, rfl, ⟨vs, h2, hl⟩, h3⟩ := tupI_ok hit r1
    exact ⟨a, vs, rfl, .inr ⟨h2, h1.mk A1 (itok_enumT h3)⟩⟩
  · split at h1
    · rename_i it hit
      obtain ⟨a, rfl, ⟨vs, h2, hl⟩, h3⟩ := seqI_ok A1 hit r1
      exact ⟨a, vs, rfl, .inl ⟨h2, h1.mk A1 (itok_enum h3)⟩⟩
    · exact h1.elim
end
/-- a constant of the module -/
def Cst (K : PySem.W.Frag) (mg : Str → Option Value) (x : Str) (d : D) : Prop := ∃ v u, mg x = some u ∧ RelV v u ∧ ∀ ρ H, Rep K ρ H d v
theorem e3_cst {X : Cx} {W : WX} {pos : Pos} {x : Str} {d : D} (c : Cst X.K X.mg x d) (hg : Gl X x := by rfl) (hd : (x == ("__debug__" : Str)) = false := by decide) : PE3 X W (.Name x pos) (eC d) := by
  obtain ⟨v, u, h1, h2, h3⟩ := c
  exact e3_glob hg h1 h2 h3 hd
def dvD : D → He.Dv
  | .int i => .int i
  | .str x => .str x
  | .bl b => .bl b
  | _ => .non
def plainD : D → Bool
  | .int _ => true
  | .str _ => true
  | .bl _ => true
  | .non => true
  | _ => false
theorem reps_dv {K : PySem.W.Frag} {ρ : List Addr} {H : Hp} : ∀ (ds : List D), ds.all plainD = true → Reps K ρ H ds ((ds.map dvD).map (He.Dv.v K))
  | [], _ => rfl
  | x :: r, h => by
    rw [List.all_cons, Bool.and_eq_true] at h
    refine ⟨_, _, rfl, ?_, reps_dv r h.2⟩
    cases x <;> first | rfl | exact Bool.noConfusion h.1
theorem cst_tup {K : PySem.W.Frag} {mg : Str → Option Value} {x : Str} {ds : List D} (g : mg x = some (.ref (He.ga K x))) (h : He.tupB K x (ds.map dvD) = true) (hp : ds.all plainD = true) : Cst K mg x (.tup ds) :=
  ⟨.ref (He.ga K x), _, g, rfl, fun ρ H => ⟨_, _, rfl, He.tupB_ok h H, reps_dv ds hp⟩⟩
theorem cst_int {K : PySem.W.Frag} {mg : Str → Option Value} {x : Str} {i : Int} (g : ∃ t, mg x = some (.int i t)) : Cst K mg x (.int i) := by
  obtain ⟨t, g⟩ := g
  exact ⟨.int i, _, g, ⟨t, rfl⟩, fun _ _ => rfl⟩
theorem cst_str {K : PySem.W.Frag} {mg : Str → Option Value} {x z : Str} (g : ∃ t, mg x = some (.str z t)) : Cst K mg x (.str z) := by
  obtain ⟨t, g⟩ := g
  exact ⟨.str z, _, g, ⟨t, rfl⟩, fun _ _ => rfl⟩
/-- an own error class -/
structure Err (K : PySem.W.Frag) (mg : Str → Option Value) (x : Str) : Prop where
  gl : mg x = some (.ref (He.ga K x))
  ex : PySem.W.excIn K (He.ga K x) He.veBase "ValueError.__new__" = true
  kp : PySem.W.keepIn K (.ref (He.ga K x)) = true
  sb : PySem.W.subIn K (.ref (He.ga K x)) (.type "BaseException") = some true
  ty : PySem.W.typeIn K (.ref (He.ga K x)) = some (.type "type")
theorem err_of {K : PySem.W.Frag} {mg : Str → Option Value} {x : Str} (g : mg x = some (.ref (He.ga K x))) (c : (He.Fa.exc x).ok K = true) : Err K mg x := by
  have z := He.exc_ok c
  exact ⟨g, z.1, z.2.1, z.2.2.1, z.2.2.2⟩
theorem s3_err {X : Cx} {W : WX} {pos : Pos} {x m : Str} {j : Nat} {p p2 pos2 : Pos} (E : Err X.K X.mg x) (hc : X.calm = true) (tk : Takes X W) (hg : Gl X x := by rfl) (hdb : (x == ("__debug__" : Str)) = false := by decide) :
    PS3 X W (.Raise (some (.Call (.Name x p) [.Constant (.str m) j p2] [] pos)) none pos2) (sRaise x) :=
  s3_raise hc tk PySem.F.excBase_ValueError E.ex E.gl E.kp (raises_own E.sb E.ty) hg hdb
/-! ## long divisions: nobody looks on, and there is room for CPython's own way -/
structure Sr (X : Cx) : Prop where
  seer : X.base.NoSeer
  tree : X.prog.given.tree = none
  st : ∃ e l, X.stack = e :: l ∧ e.scope.isGenerator = false ∧ e.scope.isCoroutine = false ∧ e.builtins = builtinsNs ∧ e.globals = mainGlobals
theorem Sr.room {X : Cx} {pins : List (Addr × Obj)} {σ : L2.St} {H : Hp} {s : Shared} {k : Nat} (q : Sr X) (hr : Room k X.A) (hk : 35 ≤ k) (I : Inv X pins σ H s) : PylongRoom (model X.prog X.w) X.A s := by
  obtain ⟨e, l, e1, e2, e3, e4, e5⟩ := q.st
  refine PylongRoom.of I.nolimit ?_ (SeerAt.of (q.seer.keeps I.bk) q.tree (I.ok.frames.trans (congrArg some e1)) e2 e3 e4 e5)
  have := hr.dp
  have e : Builtin.pylongFrames = 100 := rfl
  omega
theorem op_fdiv4 {X : Cx} {k : Nat} (q : Sr X) (hr : Room k X.A) (hk : 35 ≤ k := by decide) : OpR X (binaryOp .FloorDiv) (rI (fun _ j => j ≠ 0) fun i j => .int (i.fdiv j)) := by
  intro pins s σ H x y v u Q I rx ry h
  obtain ⟨i, j, rfl, rfl, hc, q2⟩ := h
  obtain ⟨t, rfl⟩ := rx
  obtain ⟨t', rfl⟩ := ry
  exact floordiv_int hc ⟨.int (i.fdiv j), H, I.tok _, ⟨_, rfl⟩, q2⟩ (.inr (q.room hr hk I))
theorem noSeer_hid {h : Heap} {H : Hp} (n : h.NoSeer) (nb : ∀ b o, h.get? b = some o → (∀ es ep, o.data = .dict es ep → H b = none)) (nm : ∀ b o, h.get? b = some o → o.cls = .type "module" → H b = none) : (hidT h H).NoSeer := by
  have ns : ∀ {b : Addr} {m : Str → Option Value}, h.Ns b m → (hidT h H).Ns b m := fun {b m} z => by
    obtain ⟨o, es, ep, e, d, r⟩ := z
    exact ⟨o, es, ep, hidT_get e (nb b o e es ep d), d, r⟩
  obtain ⟨mc, a1, a2⟩ := n.statics
  obtain ⟨mm, b1, b2⟩ := n.mods
  obtain ⟨mb, c1, c2⟩ := n.imp
  obtain ⟨mg, bm, ob, d1, d2, d3, d4, d5⟩ := n.main
  exact ⟨⟨mc, ns a1, a2⟩, ⟨mm, ns b1, b2⟩, ⟨mb, ns c1, c2⟩, ⟨mg, bm, ob, ns d1, d2, hidT_get d3 (nm bm ob d3 d4), d4, d5⟩⟩
/-- the law's call, where nobody looks on -/
theorem law_call4 {P : Program} {w : World} {K : PySem.W.Frag} {mg mb : Str → Option Value} {CX : CXT} {k : Nat} {fa sa : Addr} {fd : FuncData} {x : Str} {sp : Sp} {t1 : Shared} {us : List Value} {js : List Int}
    (kin : K.In t1.heap) (gns : t1.heap.Ns mainGlobals mg) (bns : t1.heap.Ns builtinsNs mb) (bbt : ∀ x : Str, x ≠ "__name__" → mb x = bootBuiltins x) (lim : t1.heap.NoLimit) (see : t1.heap.NoSeer) (gen0 : t1.gens = #[])
    (hsa : t1.heap.get? sa = some { cls := .type "list", data := .seq us.toArray }) (intJ : IntsAre us js) (small : js.length ≤ sizeLine) (room : Room k callerA)
    (F : ∀ base : Heap, K.In base → base.Ns mainGlobals mg → base.NoSeer → FnOk P w K mg base CX k fa fd [x] sp) (bnd : ∀ (s : Shared) (u : Value), BindsTo s fd ⟨[u], []⟩ [(x, u)])
    (ask : ∀ H : Hp, Only H → SqL K H sa (js.map V.int) → sp [.ref sa] H (fun v _ => v = .bl true) fun _ _ _ => False)
    (noX : ∀ H e s', CX [] H t1 (fun _ _ _ => False) e s' → False) :
    codeAny (model P w) callerA (.call (.ref fa) ⟨[.ref sa], []⟩) (fun r t2 => r = .ok (.ret (.bool true)) ∧ OldK t1.heap t2.heap ∧ t2.os = t1.os ∧ AllBare t2.gens) t1 := by
  have relV := vals_ints intJ
  have lenE := intJ.length
  have main : ∀ H : Hp, Only H → SqL K H sa (js.map V.int) → HOk P w H t1.heap → (∀ b, H b ≠ none → b = sa) → (H sa ≠ none → K.lookup sa = none) →
      codeAny (model P w) callerA (.call (.ref fa) ⟨[.ref sa], []⟩) (fun r t2 => r = .ok (.ret (.bool true)) ∧ OldK t1.heap t2.heap ∧ t2.os = t1.os ∧ AllBare t2.gens) t1 := by
    intro H only sq hok alone notK
    have free : ∀ (b : Addr) (o : Obj), t1.heap.get? b = some o → o ≠ { cls := .type "list", data := .seq us.toArray } → H b = none := fun b o e ne => by
      by_cases q : H b = none
      · exact q
      · have e2 := alone b q
        rw [e2, hsa] at e
        exact absurd (Option.some.inj e).symm ne
    have freeD : ∀ (b : Addr) (o : Obj), t1.heap.get? b = some o → ∀ es ep, o.data = .dict es ep → H b = none := fun b o e es ep d => free b o e fun z => by
      rw [z] at d
      have d2 : Data.seq us.toArray _ = Data.dict es ep := d
      cases d2
    have freeM : ∀ (b : Addr) (o : Obj), t1.heap.get? b = some o → o.cls = .type "module" → H b = none := fun b o e c => free b o e fun z => by
      rw [z] at c
      have c2 : Value.type "list" = Value.type "module" := c
      injection c2 with c3
      exact absurd c3 (by decide)
    have hid : ∀ {b : Addr} {m : Str → Option Value}, t1.heap.Ns b m → (hidT t1.heap H).Ns b m := fun {b m} z => by
      obtain ⟨o, es, ep, e, d, r⟩ := z
      exact ⟨o, es, ep, hidT_get e (freeD b o e es ep d), d, r⟩
    have kinB : K.In (hidT t1.heap H) := fun b o e => hidT_get (kin b o e) (by
      by_cases q : H b = none
      · exact q
      · have e2 := alone b q
        subst e2
        rw [notK q] at e
        cases e)
    have limB : (hidT t1.heap H).NoLimit := by
      obtain ⟨mc, h1, h2⟩ := lim
      exact ⟨mc, hid h1, h2⟩
    have md : Mod K mg (hidT t1.heap H) := ⟨kinB, hid gns, ⟨mb, hid bns, bbt⟩, limB⟩
    have see2 := noSeer_hid (H := H) see freeD freeM
    have start : Env0 P w K mg (hidT t1.heap H) callerA [] t1 H := ⟨rfl, md, fun b o e => of_hidT e, Nat.le_of_eq (hidT_size _ _), trivial, fun b hb => (nomatch (show b ∈ ([] : List Addr) from hb)), hok, .of_eq gen0⟩
    have go := (F _ kinB (hid gns) see2).run callerA [] t1 H ⟨[.ref sa], []⟩ [.ref sa] [.ref sa] _ _ room start (bnd t1 (.ref sa)) (.cons rfl .nil) (ask H only sq)
    refine codeAny_mono go fun r t2 h => ?_
    match r, h with
    | .error e, h => exact (noX H e t2 h).elim
    | .ok .next, h => exact False.elim h
    | .ok .brk, h => exact False.elim h
    | .ok .cont, h => exact False.elim h
    | .ok (.ret u), h =>
      obtain ⟨v, H', os, bare, un, hok', rel, (hv : v = .bl true)⟩ := h
      subst hv
      obtain rfl : u = Value.bool true := rel
      refine ⟨rfl, OldK.of_keep fun b o e => ?_, os, bare⟩
      rcases only b with z | ⟨ob, xs, z⟩
      · exact un.keep b o e z (fun w => nomatch (show b ∈ ([] : List Addr) from w)) (by simp)
      · obtain ⟨q1, _⟩ := hok b _ z
        obtain ⟨q2, _⟩ := hok' b _ (un.frzs b ob _ z)
        rw [e] at q1
        cases q1
        exact q2
  by_cases hk : K.lookup sa = none
  · refine main (fun b => if b = sa then some (.frz { cls := .type "list", data := .seq us.toArray } (.lst (js.map V.int))) else none) (fun b => ?_) (.inl (.inr ⟨_, if_pos rfl⟩)) (fun b u z => ?_) (fun b z => ?_) fun _ => hk
    · by_cases e : b = sa
      · exact .inr ⟨_, _, if_pos e⟩
      · exact .inl (if_neg e)
    · by_cases e : b = sa
      · have z2 := (if_pos e).symm.trans z
        cases z2
        rw [e]
        exact ⟨hsa, by rw [List.length_map]; exact small, us, _, relV, hsa⟩
      · have z2 := (if_neg e).symm.trans z
        cases z2
    · by_cases e : b = sa
      · exact e
      · exact absurd (if_neg e) z
  · obtain ⟨o, ho⟩ := Option.ne_none_iff_exists'.mp hk
    have e := kin sa o ho
    rw [hsa] at e
    cases e
    refine main (fun _ => none) (fun _ => .inl rfl) (.inr ⟨_, us.toArray, _, ho, rfl, rfl, rfl, ?_, ?_⟩) (fun b u z => ?_) (fun b z => absurd rfl z) fun z => absurd rfl z
    · rw [List.size_toArray, lenE]; exact small
    · simpa using relV
    · have z2 : (none : Option HO) = some u := z
      cases z2
/-- the end of a law, where nobody looks on -/
theorem law_walk4 {lw : PySem.W.OpenLaw} {n k : Nat} {qq : Program} {ls : List Str} {Xp : (Str → Option Value) → Heap → Prop} {Yp : World → Heap → Prop} {dr : DefRec} {x : Str} {fn : Fn3}
    (hm : lw.most = some n) (hz : n ≤ sizeLine) (hd0 : dr.params.defaults = []) (room : Room k callerA) (him : importsNone qq = true)
    (get : ∀ (w : World) (mg : Str → Option Value) (fa : Addr) (h : Heap), Yp w h → h.Ns mainGlobals mg → mg dr.name = some (.ref fa) → ∃ (K : PySem.W.Frag) (fd : FuncData), K.In h ∧
      (∀ (s : Shared) (u : Value), BindsTo s fd ⟨[u], []⟩ [(x, u)]) ∧ ∀ base : Heap, K.In base → base.Ns mainGlobals mg → base.NoSeer → FnOk lw.prog w K mg base (L2.CX lw.prog w) k fa fd [x] (emb K fn))
    (holds : ∀ ns : List Int, ns.length ≤ n → ∃ L, fn [.rol (ns.map D.int)] [] = .val (.bl true) L) :
    PySem.W.WalkO qq ls Xp Yp lw.row.toRowW dr [] (fun f vs => PySem.call f vs) := by
  refine Att.attach_call hm hd0 ?_
  intro w t0 t1 mg mb fa ob m1 m2 m3 ad us js Gd Yd e1 e2 e3 e4 e5 e6 e7 e8
  obtain ⟨K, fd, inK, bnd, ok⟩ := get w mg fa _ Yd Gd.T.g e4
  refine law_call4 inK Gd.T.g Gd.T.b Gd.T.builtins Gd.T.nolimit (Gd.T.seer him) e8 e5 e6
    (Nat.le_trans e7 hz) room ok bnd
    (fun H only sq => law_emb (holds js e7) only sq) ?_
  intro H ev t' z
  obtain ⟨_, _, _, _, _, _, _, _, _, _, _, _, y⟩ := z
  exact y.elim
@[simp] theorem fAdd_int {i j : Int} {L : Lh} : fAdd (.int i) (.int j) L = .val (.int (i + j)) L := rfl
@[simp] theorem fMul_int {i j : Int} {L : Lh} (h : CMulX i j) : fMul (.int i) (.int j) L = .val (.int (i * j)) L := by
  show (if CMulX i j then _ else _) = _
  rw [if_pos h]
theorem fIx_tupS {xs : List D} {i : Int} {d : D} {L : Lh} (h : L2.atI xs i = some d) : fIx (.tup xs) (.int i) L = .val d L := by
  show (match itemsT (.tup xs) L with | some xs => (match L2.atI xs i with | some d => R3.val d L | none => .stuck) | none => .stuck) = _
  simp only [itemsT_tup, h]
theorem fIx_listS {x : D} {xs : List D} {i : Int} {d : D} {L : Lh} (hx : itemsT x L = some xs) (h : L2.atI xs i = some d) : fIx x (.int i) L = .val d L := by
  show (match itemsT x L with | some xs => (match L2.atI xs i with | some d => R3.val d L | none => .stuck) | none => .stuck) = _
  simp only [hx, h]
/-! ## what holds behind: continuations -/
def wpR {α : Type} (r : R3 α) (Q : α → Lh → Prop) (E : Str → Lh → Prop) : Prop := match r with
  | .val a L => Q a L
  | .exn c L => E c L
  | .stuck => False
structure Po where
  nx : G3 → Lh → Prop
  rt : D → Lh → Prop
  bk : G3 → Lh → Prop
  ct : G3 → Lh → Prop
  ex : Str → G3 → Lh → Prop
def wpS (o : Out) (P : Po) : Prop := match o with
  | .nx Γ L => P.nx Γ L
  | .ret d L => P.rt d L
  | .brk Γ L => P.bk Γ L
  | .ct Γ L => P.ct Γ L
  | .exn c Γ L => P.ex c Γ L
  | .stuck => False
def noE (_ : Str) (_ : Lh) : Prop := False
/-- errors within a statement -/
@[simp] def Po.exk (P : Po) (Γ : G3) (c : Str) (L : Lh) : Prop := P.ex c Γ L
@[simp] def kB {α β : Type} (f : α → Lh → R3 β) (Q : β → Lh → Prop) (E : Str → Lh → Prop) (a : α) (L : Lh) : Prop := wpR (f a L) Q E
@[simp] def kO {α : Type} (k : α → Lh → Out) (P : Po) (a : α) (L : Lh) : Prop := wpS (k a L) P
section
variable {α β : Type} {Q : α → Lh → Prop} {E : Str → Lh → Prop} {P : Po} {Γ : G3} {L : Lh}
@[simp] theorem wpR_val {a : α} : wpR (.val a L) Q E = Q a L := rfl
@[simp] theorem wpR_exn {c : Str} : wpR (.exn c L : R3 α) Q E = E c L := rfl
@[simp] theorem wpS_nx : wpS (.nx Γ L) P = P.nx Γ L := rfl
@[simp] theorem wpS_ret {d : D} : wpS (.ret d L) P = P.rt d L := rfl
@[simp] theorem wpS_brk : wpS (.brk Γ L) P = P.bk Γ L := rfl
@[simp] theorem wpS_ct : wpS (.ct Γ L) P = P.ct Γ L := rfl
@[simp] theorem wpS_exn {c : Str} : wpS (.exn c Γ L) P = P.ex c Γ L := rfl
theorem wpR_bind' {r : R3 α} {f : α → Lh → R3 β} {Q : β → Lh → Prop} : wpR (r.bind f) Q E = wpR r (fun a L1 => wpR (f a L1) Q E) E := by cases r <;> rfl
@[simp ↓] theorem wpR_bind {r : R3 α} {f : α → Lh → R3 β} {Q : β → Lh → Prop} : wpR (r.bind f) Q E = wpR r (kB f Q E) E := wpR_bind'
theorem wpS_out' {r : R3 α} {k : α → Lh → Out} : wpS (r.out Γ k) P = wpR r (fun a L1 => wpS (k a L1) P) (fun c L1 => P.ex c Γ L1) := by cases r <;> rfl
@[simp ↓] theorem wpS_out {r : R3 α} {k : α → Lh → Out} : wpS (r.out Γ k) P = wpR r (kO k P) (P.exk Γ) := wpS_out'
theorem wpR.mono {r : R3 α} {Q Q' : α → Lh → Prop} {E E' : Str → Lh → Prop} (h : wpR r Q E) (hq : ∀ a L, Q a L → Q' a L) (he : ∀ c L, E c L → E' c L) : wpR r Q' E' := by
  cases r with
  | val a L => exact hq a L h
  | exn c L => exact he c L h
  | stuck => exact h
/-- the answer is known -/
theorem wpR.of {r : R3 α} {a : α} {L1 : Lh} (e : r = .val a L1) (h : Q a L1) : wpR r Q E := by rw [e]; exact h
theorem wpR.eq {r : R3 α} {a : α} (h : wpR r (fun b L1 => b = a ∧ L1 = L) noE) : r = .val a L := by
  cases r with
  | val b L1 => obtain ⟨rfl, rfl⟩ := h; rfl
  | exn c L => exact h.elim
  | stuck => exact h.elim
theorem wpR.ex {r : R3 α} (h : wpR r Q noE) : ∃ a L1, r = .val a L1 ∧ Q a L1 := by
  cases r with
  | val b L1 => exact ⟨b, L1, rfl, h⟩
  | exn c L => exact h.elim
  | stuck => exact h.elim
/-! choices -/
def cndR (b : Bool) (x y : R3 α) : R3 α := if b = true then x else y
def cndS (b : Bool) (t u : S3) (Γ : G3) (L : Lh) : Out := if b = true then t Γ L else u Γ L
def cndE (b : Bool) (t u : G3 → Lh → R3 α) (Γ : G3) (L : Lh) : R3 α := if b = true then t Γ L else u Γ L
@[simp] theorem wp_cndS_true {t u : S3} : wpS (cndS true t u Γ L) P = wpS (t Γ L) P := rfl
@[simp] theorem wp_cndS_false {t u : S3} : wpS (cndS false t u Γ L) P = wpS (u Γ L) P := rfl
@[simp] theorem wp_cndE_true {t u : G3 → Lh → R3 α} : wpR (cndE true t u Γ L) Q E = wpR (t Γ L) Q E := rfl
@[simp] theorem wp_cndE_false {t u : G3 → Lh → R3 α} : wpR (cndE false t u Γ L) Q E = wpR (u Γ L) Q E := rfl
theorem wp_cndS {b : Bool} {t u : S3} (h1 : b = true → wpS (t Γ L) P) (h2 : b = false → wpS (u Γ L) P) : wpS (cndS b t u Γ L) P := by
  cases b with
  | true => exact h1 rfl
  | false => exact h2 rfl
theorem wp_cndE {b : Bool} {t u : G3 → Lh → R3 α} (h1 : b = true → wpR (t Γ L) Q E) (h2 : b = false → wpR (u Γ L) Q E) : wpR (cndE b t u Γ L) Q E := by
  cases b with
  | true => exact h1 rfl
  | false => exact h2 rfl
/-- an if by what is tested -/
theorem wp_if {p : Prop} [Decidable p] {t u : S3} (h1 : p → wpS (t Γ L) P) (h2 : ¬ p → wpS (u Γ L) P) : wpS (cndS (decide p) t u Γ L) P := by
  by_cases h : p
  · rw [decide_eq_true h]; exact h1 h
  · rw [decide_eq_false h]; exact h2 h
theorem wp_ifE {p : Prop} [Decidable p] {t u : G3 → Lh → R3 α} (h1 : p → wpR (t Γ L) Q E) (h2 : ¬ p → wpR (u Γ L) Q E) : wpR (cndE (decide p) t u Γ L) Q E := by
  by_cases h : p
  · rw [decide_eq_true h]; exact h1 h
  · rw [decide_eq_false h]; exact h2 h
end
section
variable {Q : D → Lh → Prop} {E : Str → Lh → Prop} {Γ : G3} {L : Lh}
/-! expressions -/
@[simp] def kOp2 (f : Op3) (x : D) (Q : D → Lh → Prop) (E : Str → Lh → Prop) (y : D) (L : Lh) : Prop := wpR (f x y L) Q E
@[simp] def kOp1 (f : Op3) (b : E3) (Γ : G3) (Q : D → Lh → Prop) (E : Str → Lh → Prop) (x : D) (L : Lh) : Prop := wpR (b Γ L) (kOp2 f x Q E) E
theorem wpR_bind2 {α β : Type} {r : R3 α} {f : α → Lh → R3 β} {Q : β → Lh → Prop} {E : Str → Lh → Prop} {Q' : α → Lh → Prop} (h : ∀ a L, Q' a L = wpR (f a L) Q E) : wpR (r.bind f) Q E = wpR r Q' E := by
  rw [wpR_bind']; congr; funext a L; exact (h a L).symm
@[simp ↓] theorem wp_eOp {f : Op3} {a b : E3} : wpR (eOp f a b Γ L) Q E = wpR (a Γ L) (kOp1 f b Γ Q E) E := wpR_bind2 fun _ _ => Eq.symm wpR_bind'
@[simp] def kUn (f : Un3) (Q : D → Lh → Prop) (E : Str → Lh → Prop) (x : D) (L : Lh) : Prop := wpR (f x L) Q E
@[simp ↓] theorem wp_eUn {f : Un3} {a : E3} : wpR (eUn f a Γ L) Q E = wpR (a Γ L) (kUn f Q E) E := wpR_bind'
@[simp ↓] theorem wp_aNil {Q : List D → Lh → Prop} : wpR (aNil Γ L) Q E = Q [] L := rfl
@[simp] def kA2 (x : D) (Q : List D → Lh → Prop) (xs : List D) (L : Lh) : Prop := Q (x :: xs) L
@[simp] def kA1 (g : A3) (Γ : G3) (Q : List D → Lh → Prop) (E : Str → Lh → Prop) (x : D) (L : Lh) : Prop := wpR (g Γ L) (kA2 x Q) E
@[simp ↓] theorem wp_aCons {Q : List D → Lh → Prop} {f : E3} {g : A3} : wpR (aCons f g Γ L) Q E = wpR (f Γ L) (kA1 g Γ Q E) E := wpR_bind2 fun _ _ => Eq.symm wpR_bind'
def tupR (xs : List D) (L : Lh) : R3 D := if xs.length ≤ 1000 then .val (.tup xs) L else .stuck
def lstR (xs : List D) (L : Lh) : R3 D := if xs.length ≤ 1000 then .val (.loc L.length) (L ++ [.lst xs]) else .stuck
@[simp] def keTup (Q : D → Lh → Prop) (E : Str → Lh → Prop) (xs : List D) (L : Lh) : Prop := wpR (tupR xs L) Q E
@[simp ↓] theorem wp_eTup {g : A3} : wpR (eTup g Γ L) Q E = wpR (g Γ L) (keTup Q E) E := wpR_bind'
@[simp] def keLst (Q : D → Lh → Prop) (E : Str → Lh → Prop) (xs : List D) (L : Lh) : Prop := wpR (lstR xs L) Q E
@[simp ↓] theorem wp_eLst {g : A3} : wpR (eLst g Γ L) Q E = wpR (g Γ L) (keLst Q E) E := wpR_bind'
@[simp] theorem tupR_nil : tupR [] L = .val (.tup []) L := rfl
@[simp] theorem tupR_1 {a : D} : tupR [a] L = .val (.tup [a]) L := rfl
@[simp] theorem tupR_2 {a b : D} : tupR [a, b] L = .val (.tup [a, b]) L := rfl
@[simp] theorem tupR_3 {a b c : D} : tupR [a, b, c] L = .val (.tup [a, b, c]) L := rfl
@[simp] theorem tupR_4 {a b c d : D} : tupR [a, b, c, d] L = .val (.tup [a, b, c, d]) L := rfl
@[simp] theorem tupR_5 {a b c d e : D} : tupR [a, b, c, d, e] L = .val (.tup [a, b, c, d, e]) L := rfl
@[simp] theorem tupR_6 {a b c d e f : D} : tupR [a, b, c, d, e, f] L = .val (.tup [a, b, c, d, e, f]) L := rfl
@[simp] theorem lstR_nil : lstR [] L = .val (.loc L.length) (L ++ [.lst []]) := rfl
@[simp] theorem lstR_1 {a : D} : lstR [a] L = .val (.loc L.length) (L ++ [.lst [a]]) := rfl
@[simp] theorem lstR_2 {a b : D} : lstR [a, b] L = .val (.loc L.length) (L ++ [.lst [a, b]]) := rfl
@[simp] theorem lstR_3 {a b c : D} : lstR [a, b, c] L = .val (.loc L.length) (L ++ [.lst [a, b, c]]) := rfl
@[simp] theorem lstR_4 {a b c d : D} : lstR [a, b, c, d] L = .val (.loc L.length) (L ++ [.lst [a, b, c, d]]) := rfl
@[simp] theorem lstR_5 {a b c d e : D} : lstR [a, b, c, d, e] L = .val (.loc L.length) (L ++ [.lst [a, b, c, d, e]]) := rfl
@[simp] theorem lstR_6 {a b c d e f : D} : lstR [a, b, c, d, e, f] L = .val (.loc L.length) (L ++ [.lst [a, b, c, d, e, f]]) := rfl
@[simp] def kCall (f : Fn3) (Q : D → Lh → Prop) (E : Str → Lh → Prop) (xs : List D) (L : Lh) : Prop := wpR (f xs L) Q E
@[simp ↓] theorem wp_eCall {f : Fn3} {g : A3} : wpR (eCall f g Γ L) Q E = wpR (g Γ L) (kCall f Q E) E := wpR_bind'
def mtR (T : String) (f : D → List D → Lh → R3 D) (g : A3) (Γ : G3) (x : D) (L : Lh) : R3 D := if isTy T x L = true then (g Γ L).bind fun xs L2 => f x xs L2 else .stuck
@[simp] def kMt (T : String) (f : D → List D → Lh → R3 D) (g : A3) (Γ : G3) (Q : D → Lh → Prop) (E : Str → Lh → Prop) (x : D) (L : Lh) : Prop := wpR (mtR T f g Γ x L) Q E
@[simp ↓] theorem wp_eMt {T : String} {f : D → List D → Lh → R3 D} {fo : E3} {g : A3} : wpR (eMt T f fo g Γ L) Q E = wpR (fo Γ L) (kMt T f g Γ Q E) E := wpR_bind'
@[simp] def kMt2 (f : D → List D → Lh → R3 D) (x : D) (Q : D → Lh → Prop) (E : Str → Lh → Prop) (xs : List D) (L : Lh) : Prop := wpR (f x xs L) Q E
theorem wp_mtR {T : String} {f : D → List D → Lh → R3 D} {g : A3} {x : D} (h : isTy T x L = true) : wpR (mtR T f g Γ x L) Q E = wpR (g Γ L) (kMt2 f x Q E) E := by unfold mtR; rw [if_pos h]; exact wpR_bind'
@[simp ↓] theorem wp_mtL {n : Nat} {xs : List D} {f : D → List D → Lh → R3 D} {g : A3} (h : L[n]? = some (.lst xs)) : wpR (mtR "list" f g Γ (.loc n) L) Q E = wpR (g Γ L) (kMt2 f (.loc n) Q E) E := wp_mtR (isTy_list h)
def mt0R (T : String) (f : D → List D → Lh → R3 D) (x : D) (L : Lh) : R3 D := if isTy T x L = true then f x [] L else .stuck
@[simp] def kMt0 (T : String) (f : D → List D → Lh → R3 D) (Q : D → Lh → Prop) (E : Str → Lh → Prop) (x : D) (L : Lh) : Prop := wpR (mt0R T f x L) Q E
@[simp ↓] theorem wp_eMt0 {T : String} {f : D → List D → Lh → R3 D} {fo : E3} : wpR (eMt0 T f fo Γ L) Q E = wpR (fo Γ L) (kMt0 T f Q E) E := wpR_bind'
@[simp] theorem mt0R_L {n : Nat} {xs : List D} {f : D → List D → Lh → R3 D} (h : L[n]? = some (.lst xs)) : mt0R "list" f (.loc n) L = f (.loc n) [] L := by unfold mt0R; rw [if_pos (isTy_list h)]
@[simp] def kIf {α : Type} (a b : G3 → Lh → R3 α) (Γ : G3) (Q : α → Lh → Prop) (E : Str → Lh → Prop) (c : Bool) (L : Lh) : Prop := wpR (cndE c a b Γ L) Q E
@[simp ↓] theorem wp_eIf {t : T3} {a b : E3} : wpR (eIf t a b Γ L) Q E = wpR (t Γ L) (kIf a b Γ Q E) E := wpR_bind'
@[simp] def kTE (Q : Bool → Lh → Prop) (E : Str → Lh → Prop) (x : D) (L : Lh) : Prop := wpR (asB x L) Q E
@[simp ↓] theorem wp_tE {f : E3} {Q : Bool → Lh → Prop} : wpR (tE f Γ L) Q E = wpR (f Γ L) (kTE Q E) E := wpR_bind'
def tTr : T3 := fun _ L => .val true L
def tFa : T3 := fun _ L => .val false L
@[simp] theorem tTr_ap : tTr Γ L = .val true L := rfl
@[simp] theorem tFa_ap : tFa Γ L = .val false L := rfl
@[simp ↓] theorem wp_tAnd {f g : T3} {Q : Bool → Lh → Prop} : wpR (tAnd3 f g Γ L) Q E = wpR (f Γ L) (kIf g tFa Γ Q E) E := wpR_bind'
@[simp ↓] theorem wp_tOr {f g : T3} {Q : Bool → Lh → Prop} : wpR (tOr3 f g Γ L) Q E = wpR (f Γ L) (kIf tTr g Γ Q E) E := wpR_bind'
@[simp] def kNot (Q : Bool → Lh → Prop) (c : Bool) (L : Lh) : Prop := Q (!c) L
@[simp ↓] theorem wp_tNot {f : T3} {Q : Bool → Lh → Prop} : wpR (tNot3 f Γ L) Q E = wpR (f Γ L) (kNot Q) E := wpR_bind'
def eTr : E3 := fun _ L => .val (.bl true) L
def eFa : E3 := fun _ L => .val (.bl false) L
@[simp] theorem eTr_ap : eTr Γ L = .val (.bl true) L := rfl
@[simp] theorem eFa_ap : eFa Γ L = .val (.bl false) L := rfl
def andR (g : E3) (Γ : G3) (x : D) (L : Lh) : R3 D := match x with
  | .bl b => cndE b g eFa Γ L
  | _ => .stuck
def orR (g : E3) (Γ : G3) (x : D) (L : Lh) : R3 D := match x with
  | .bl b => cndE b eTr g Γ L
  | _ => .stuck
@[simp] theorem andR_bl {g : E3} {b : Bool} : andR g Γ (.bl b) L = cndE b g eFa Γ L := rfl
@[simp] theorem orR_bl {g : E3} {b : Bool} : orR g Γ (.bl b) L = cndE b eTr g Γ L := rfl
@[simp] def kAnd (g : E3) (Γ : G3) (Q : D → Lh → Prop) (E : Str → Lh → Prop) (x : D) (L : Lh) : Prop := wpR (andR g Γ x L) Q E
@[simp ↓] theorem wp_eAnd {f g : E3} : wpR (eAnd f g Γ L) Q E = wpR (f Γ L) (kAnd g Γ Q E) E := wpR_bind2 fun x L1 => by
  unfold kAnd andR; cases x <;> try rfl
  rename_i b; cases b <;> rfl
@[simp] def kOr (g : E3) (Γ : G3) (Q : D → Lh → Prop) (E : Str → Lh → Prop) (x : D) (L : Lh) : Prop := wpR (orR g Γ x L) Q E
@[simp ↓] theorem wp_eOr {f g : E3} : wpR (eOr f g Γ L) Q E = wpR (f Γ L) (kOr g Γ Q E) E := wpR_bind2 fun x L1 => by
  unfold kOr orR; cases x <;> try rfl
  rename_i b; cases b <;> rfl
def soR (d : D) (L : Lh) : R3 (Option Int) := match d with
  | .int i => .val (some i) L
  | _ => .stuck
@[simp] theorem soR_int {i : Int} : soR (.int i) L = .val (some i) L := rfl
@[simp] def kSo (Q : Option Int → Lh → Prop) (E : Str → Lh → Prop) (d : D) (L : Lh) : Prop := wpR (soR d L) Q E
@[simp ↓] theorem wp_oSo {f : E3} {Q : Option Int → Lh → Prop} : wpR (oSo f Γ L) Q E = wpR (f Γ L) (kSo Q E) E := wpR_bind'
@[simp ↓] theorem wp_oNo {Q : Option Int → Lh → Prop} : wpR (oNo Γ L) Q E = Q none L := rfl
@[simp] def kSl3 (x : D) (a : Option Int) (Q : D → Lh → Prop) (E : Str → Lh → Prop) (b : Option Int) (L : Lh) : Prop := wpR (sliceD x a b L) Q E
@[simp] def kSl2 (hi : O3) (Γ : G3) (x : D) (Q : D → Lh → Prop) (E : Str → Lh → Prop) (a : Option Int) (L : Lh) : Prop := wpR (hi Γ L) (kSl3 x a Q E) E
@[simp] def kSl1 (lo hi : O3) (Γ : G3) (Q : D → Lh → Prop) (E : Str → Lh → Prop) (x : D) (L : Lh) : Prop := wpR (lo Γ L) (kSl2 hi Γ x Q E) E
@[simp ↓] theorem wp_eSl {f : E3} {lo hi : O3} : wpR (eSl f lo hi Γ L) Q E = wpR (f Γ L) (kSl1 lo hi Γ Q E) E := wpR_bind2 fun _ _ => Eq.symm (wpR_bind2 fun _ _ => Eq.symm wpR_bind')
@[simp] def kLc (g : Tg3) (t : T3) (e : E3) (own : List Nat) (Γ : G3) (Q : D → Lh → Prop) (E : Str → Lh → Prop) (it : It3) (L : Lh) : Prop := wpR (lcL it.chk g t e (wipe3 Γ own) L.length it.xs (L ++ [.lst []])) Q E
@[simp ↓] theorem wp_eLc {f : I3} {g : Tg3} {t : T3} {e : E3} {own : List Nat} : wpR (eLc f g t e own Γ L) Q E = wpR (f Γ L) (kLc g t e own Γ Q E) E := wpR_bind'
/-! what is walked -/
def ltR (x : D) (L : Lh) : R3 It3 := match tupI x with
  | some it => .val it L
  | none => (match seqI x L with
    | some it => .val it L
    | none => .stuck)
@[simp] def kiLT (Q : It3 → Lh → Prop) (E : Str → Lh → Prop) (x : D) (L : Lh) : Prop := wpR (ltR x L) Q E
@[simp ↓] theorem wp_iLT {f : E3} {Q : It3 → Lh → Prop} : wpR (iLT f Γ L) Q E = wpR (f Γ L) (kiLT Q E) E := wpR_bind'
@[simp] theorem ltR_tup {xs : List D} : ltR (.tup xs) L = .val ⟨xs, fun _ => True⟩ L := rfl
@[simp] theorem ltR_rol {xs : List D} : ltR (.rol xs) L = .val ⟨xs, fun _ => True⟩ L := rfl
@[simp] theorem ltR_loc {n : Nat} {xs : List D} (h : L[n]? = some (.lst xs)) : ltR (.loc n) L = .val ⟨xs, fun L' => L'[n]? = some (.lst xs)⟩ L := by
  show (match seqI (.loc n) L with | some it => R3.val it L | none => .stuck) = _
  rw [seqI_loc h]
def r1R (as : List D) (L : Lh) : R3 It3 := match as with
  | [.int j] => if -1000000 ≤ j ∧ j ≤ 1000000 then .val ⟨rngD 0 j.toNat, fun _ => True⟩ L else .stuck
  | _ => .stuck
@[simp] theorem r1R_nat {n : Nat} (h : n ≤ 1000000) : r1R [.int (n : Int)] L = .val ⟨rngD 0 n, fun _ => True⟩ L := by
  show (if _ then _ else _) = _
  rw [if_pos (by omega)]; simp
theorem r1R_int {j : Int} (h0 : 0 ≤ j) (h : j ≤ 1000000) : r1R [.int j] L = .val ⟨rngD 0 j.toNat, fun _ => True⟩ L := by
  show (if _ then _ else _) = _
  rw [if_pos (by omega)]
theorem r1R_of {j : Int} (n : Nat) (h0 : j = (n : Int)) (h : n ≤ 1000000) : r1R [.int j] L = .val ⟨rngD 0 n, fun _ => True⟩ L := by subst h0; exact r1R_nat h
@[simp] def kiR1 (Q : It3 → Lh → Prop) (E : Str → Lh → Prop) (x : List D) (L : Lh) : Prop := wpR (r1R x L) Q E
@[simp ↓] theorem wp_iR1 {g : A3} {Q : It3 → Lh → Prop} : wpR (iR1 g Γ L) Q E = wpR (g Γ L) (kiR1 Q E) E := wpR_bind'
def r2R (as : List D) (L : Lh) : R3 It3 := match as with
  | [.int i, .int j] => if (-1000000 ≤ i ∧ i ≤ 1000000) ∧ -1000000 ≤ j ∧ j ≤ 1000000 then .val ⟨rngD i (j - i).toNat, fun _ => True⟩ L else .stuck
  | _ => .stuck
theorem r2R_of {i j : Int} (n : Nat) (h0 : j - i = (n : Int)) (h : -1000000 ≤ i ∧ i ≤ 1000000 ∧ n ≤ 100000 ∧ j ≤ 1000000) : r2R [.int i, .int j] L = .val ⟨rngD i n, fun _ => True⟩ L := by
  show (if _ then _ else _) = _
  rw [if_pos (by omega), show (j - i).toNat = n by omega]
@[simp] def kiR2 (Q : It3 → Lh → Prop) (E : Str → Lh → Prop) (x : List D) (L : Lh) : Prop := wpR (r2R x L) Q E
@[simp ↓] theorem wp_iR2 {g : A3} {Q : It3 → Lh → Prop} : wpR (iR2 g Γ L) Q E = wpR (g Γ L) (kiR2 Q E) E := wpR_bind'
def revR (x : D) (L : Lh) : R3 It3 := match tupI x with
  | some it => .val ⟨it.xs.reverse, it.chk⟩ L
  | none => (match seqI x L with
    | some it => .val ⟨it.xs.reverse, it.chk⟩ L
    | none => .stuck)
@[simp] def kiRev (Q : It3 → Lh → Prop) (E : Str → Lh → Prop) (x : D) (L : Lh) : Prop := wpR (revR x L) Q E
@[simp ↓] theorem wp_iRev {f : E3} {Q : It3 → Lh → Prop} : wpR (iRev f Γ L) Q E = wpR (f Γ L) (kiRev Q E) E := wpR_bind'
@[simp] theorem revR_tup {xs : List D} : revR (.tup xs) L = .val ⟨xs.reverse, fun _ => True⟩ L := rfl
@[simp] theorem revR_loc {n : Nat} {xs : List D} (h : L[n]? = some (.lst xs)) : revR (.loc n) L = .val ⟨xs.reverse, fun L' => L'[n]? = some (.lst xs)⟩ L := by
  show (match seqI (.loc n) L with | some it => R3.val (It3.mk it.xs.reverse it.chk) L | none => .stuck) = _
  rw [seqI_loc h]
def enR (x : D) (L : Lh) : R3 It3 := match tupI x with
  | some it => .val ⟨enumD it.xs, it.chk⟩ L
  | none => (match seqI x L with
    | some it => .val ⟨enumD it.xs, it.chk⟩ L
    | none => .stuck)
@[simp] def kiEnB (Q : It3 → Lh → Prop) (E : Str → Lh → Prop) (x : D) (L : Lh) : Prop := wpR (enR x L) Q E
@[simp ↓] theorem wp_iEnB {f : E3} {Q : It3 → Lh → Prop} : wpR (iEnB f Γ L) Q E = wpR (f Γ L) (kiEnB Q E) E := wpR_bind'
@[simp] theorem enR_tup {xs : List D} : enR (.tup xs) L = .val ⟨enumD xs, fun _ => True⟩ L := rfl
@[simp] theorem enR_loc {n : Nat} {xs : List D} (h : L[n]? = some (.lst xs)) : enR (.loc n) L = .val ⟨enumD xs, fun L' => L'[n]? = some (.lst xs)⟩ L := by
  show (match seqI (.loc n) L with | some it => R3.val (It3.mk (enumD it.xs) it.chk) L | none => .stuck) = _
  rw [seqI_loc h]
def zpR (x y : D) (L : Lh) : R3 It3 := match seqI x L, seqI y L with
  | some a, some b => .val ⟨zipD a.xs b.xs, fun L => a.chk L ∧ b.chk L⟩ L
  | _, _ => (match tupI x, tupI y with
    | some a, some b => .val ⟨zipD a.xs b.xs, fun L => a.chk L ∧ b.chk L⟩ L
    | _, _ => .stuck)
@[simp] def kZp2 (x : D) (Q : It3 → Lh → Prop) (E : Str → Lh → Prop) (y : D) (L : Lh) : Prop := wpR (zpR x y L) Q E
@[simp] def kZp1 (g : E3) (Γ : G3) (Q : It3 → Lh → Prop) (E : Str → Lh → Prop) (x : D) (L : Lh) : Prop := wpR (g Γ L) (kZp2 x Q E) E
@[simp ↓] theorem wp_iZp {f g : E3} {Q : It3 → Lh → Prop} : wpR (iZp f g Γ L) Q E = wpR (f Γ L) (kZp1 g Γ Q E) E := wpR_bind2 (f := fun x L1 => (g Γ L1).bind fun y L2 => zpR x y L2) fun _ _ => Eq.symm wpR_bind'
theorem zpR_loc {n m : Nat} {xs ys : List D} (h : L[n]? = some (.lst xs)) (h2 : L[m]? = some (.lst ys)) : zpR (.loc n) (.loc m) L = .val ⟨zipD xs ys, fun L' => L'[n]? = some (.lst xs) ∧ L'[m]? = some (.lst ys)⟩ L := by
  unfold zpR; rw [seqI_loc h, seqI_loc h2]
@[simp] theorem zpR_tup {xs ys : List D} : zpR (.tup xs) (.tup ys) L = .val ⟨zipD xs ys, fun L' => True ∧ True⟩ L := rfl
end
section
variable {P : Po} {Γ : G3} {L : Lh}
/-! statements -/
def Po.seq (P : Po) (u : S3) : Po := ⟨fun Γ L => wpS (u Γ L) P, P.rt, P.bk, P.ct, P.ex⟩
@[simp] theorem Po.seq_nx {u : S3} : (P.seq u).nx Γ L = wpS (u Γ L) P := rfl
@[simp] theorem Po.seq_rt {u : S3} : (P.seq u).rt = P.rt := rfl
@[simp] theorem Po.seq_bk {u : S3} : (P.seq u).bk = P.bk := rfl
@[simp] theorem Po.seq_ct {u : S3} : (P.seq u).ct = P.ct := rfl
@[simp] theorem Po.seq_ex {u : S3} : (P.seq u).ex = P.ex := rfl
@[simp ↓] theorem wp_sSeq {t u : S3} : wpS (sSeq t u Γ L) P = wpS (t Γ L) (P.seq u) := by
  unfold sSeq; cases t Γ L <;> rfl
@[simp ↓] theorem wp_sNext : wpS (sNext Γ L) P = P.nx Γ L := rfl
@[simp ↓] theorem wp_sCont : wpS (sCont Γ L) P = P.ct Γ L := rfl
@[simp ↓] theorem wp_sBrk : wpS (sBrk Γ L) P = P.bk Γ L := rfl
@[simp] def kDrop (P : Po) (Γ : G3) (_ : D) (L : Lh) : Prop := P.nx Γ L
@[simp ↓] theorem wp_sDrop {f : E3} : wpS (sDrop f Γ L) P = wpR (f Γ L) (kDrop P Γ) (P.exk Γ) := wpS_out'
@[simp ↓] theorem wp_sRet {f : E3} : wpS (sRet f Γ L) P = wpR (f Γ L) P.rt (P.exk Γ) := wpS_out'
@[simp ↓] theorem wp_sRetN : wpS (sRetN Γ L) P = P.rt .non L := rfl
@[simp ↓] theorem wp_sRaise {c : Str} : wpS (sRaise c Γ L) P = P.ex c Γ L := rfl
@[simp] def kSIf (t u : S3) (Γ : G3) (P : Po) (b : Bool) (L : Lh) : Prop := wpS (cndS b t u Γ L) P
@[simp ↓] theorem wp_sIf {c : T3} {t u : S3} : wpS (sIf c t u Γ L) P = wpR (c Γ L) (kSIf t u Γ P) (P.exk Γ) := wpS_out'
@[simp] def kSet (i : Nat) (Γ : G3) (P : Po) (d : D) (L : Lh) : Prop := P.nx (Γ.set i (some d)) L
@[simp ↓] theorem wp_sSet {i : Nat} {f : E3} : wpS (sSet i f Γ L) P = wpR (f Γ L) (kSet i Γ P) (P.exk Γ) := wpS_out'
@[simp] def kPar2 (i j : Nat) (x : D) (Γ : G3) (P : Po) (y : D) (L : Lh) : Prop := P.nx ((Γ.set i (some x)).set j (some y)) L
@[simp] def kPar1 (i j : Nat) (g : E3) (Γ : G3) (P : Po) (x : D) (L : Lh) : Prop := wpR (g Γ L) (kPar2 i j x Γ P) (P.exk Γ)
theorem wpS_out2 {α : Type} {r : R3 α} {k : α → Lh → Out} {P : Po} {Γ : G3} {Q' : α → Lh → Prop} (h : ∀ a L, Q' a L = wpS (k a L) P) : wpS (r.out Γ k) P = wpR r Q' (P.exk Γ) := by
  rw [wpS_out']; congr; funext a L; exact (h a L).symm
@[simp ↓] theorem wp_sPar {i j : Nat} {f g : E3} : wpS (sPar i j f g Γ L) P = wpR (f Γ L) (kPar1 i j g Γ P) (P.exk Γ) := wpS_out2 fun _ _ => Eq.symm wpS_out'
/-- targets -/
def Po.tg (P : Po) : Po := ⟨P.nx, fun _ _ => False, fun _ _ => False, fun _ _ => False, P.ex⟩
@[simp] theorem Po.tg_nx : P.tg.nx = P.nx := rfl
@[simp] theorem Po.tg_ex : P.tg.ex = P.ex := rfl
@[simp] def kAsg (g : Tg3) (Γ : G3) (P : Po) (d : D) (L : Lh) : Prop := wpS (g d Γ L) P.tg
@[simp ↓] theorem wp_sAsg {f : E3} {g : Tg3} : wpS (sAsg f g Γ L) P = wpR (f Γ L) (kAsg g Γ P) (P.exk Γ) := wpS_out2 fun d L1 => by
  unfold kAsg; cases g d Γ L1 <;> rfl
@[simp ↓] theorem wp_gN {i : Nat} {d : D} : wpS (gN i d Γ L) P = P.nx (Γ.set i (some d)) L := rfl
def Po.gs (P : Po) (g : Tgs3) (r : List D) : Po := ⟨fun Γ L => wpS (g r Γ L) P, fun _ _ => False, fun _ _ => False, fun _ _ => False, P.ex⟩
@[simp] theorem Po.gs_nx {g : Tgs3} {r : List D} : (P.gs g r).nx Γ L = wpS (g r Γ L) P := rfl
@[simp] theorem Po.gs_ex {g : Tgs3} {r : List D} : (P.gs g r).ex = P.ex := rfl
@[simp ↓] theorem wp_gCons {g : Tg3} {gs : Tgs3} {d : D} {r : List D} : wpS (gCons3 g gs (d :: r) Γ L) P = wpS (g d Γ L) (P.gs gs r) := by
  show wpS (match g d Γ L with | .nx Γ1 L1 => gs r Γ1 L1 | .exn c Γ1 L1 => .exn c Γ1 L1 | _ => .stuck) P = _
  cases g d Γ L <;> rfl
@[simp ↓] theorem wp_gNil : wpS (gNil3 [] Γ L) P = P.nx Γ L := rfl
@[simp ↓] theorem wp_gT {n : Nat} {gs : Tgs3} {xs : List D} : wpS (gT n gs (.tup xs) Γ L) P = (xs.length = n ∧ wpS (gs xs Γ L) P) := by
  rw [gT_tup]; split
  · rename_i h; simp [h]
  · rename_i h; simp [h, wpS]
/-- xs[i] = d -/
def setR (n : Nat) (k : Int) (d : D) (Γ : G3) (L : Lh) : Out := match L[n]? with
    | some (.lst xs) => match ixN xs.length k with
      | some j => .nx Γ (L.set n (.lst (xs.set j d)))
      | none => .stuck
    | _ => .stuck
def gsR (o i : D) (d : D) (Γ : G3) (L : Lh) : Out := match o, i with
  | .loc n, .int k => setR n k d Γ L
  | _, _ => .stuck
@[simp] theorem gsR_loc {n : Nat} {k : Int} {d : D} : gsR (.loc n) (.int k) d Γ L = setR n k d Γ L := rfl
@[simp] def kGs2 (o : D) (d : D) (Γ : G3) (P : Po) (i : D) (L : Lh) : Prop := wpS (gsR o i d Γ L) P
@[simp] def kGs1 (fi : E3) (d : D) (Γ : G3) (P : Po) (o : D) (L : Lh) : Prop := wpR (fi Γ L) (kGs2 o d Γ P) (P.exk Γ)
@[simp ↓] theorem wp_gS {fo fi : E3} {d : D} : wpS (gS fo fi d Γ L) P = wpR (fo Γ L) (kGs1 fi d Γ P) (P.exk Γ) := wpS_out2 fun _ _ => Eq.symm wpS_out'
theorem setR_eq {n : Nat} {k : Int} {j : Nat} {d : D} {xs : List D} (h : L[n]? = some (.lst xs)) (hk : ixN xs.length k = some j) : setR n k d Γ L = .nx Γ (L.set n (.lst (xs.set j d))) := by
  unfold setR; simp only [h, hk]
def augR3 (i : Nat) (o : Op3) (f : E3) (x : D) (Γ : G3) (L : Lh) : Out := (f Γ L).out Γ fun y L1 => (o x y L1).out Γ fun z L2 => .nx (Γ.set i (some z)) L2
@[simp] def kAug2 (i : Nat) (o : Op3) (x : D) (Γ : G3) (P : Po) (y : D) (L : Lh) : Prop := wpR (o x y L) (kSet i Γ P) (P.exk Γ)
@[simp] def kAug1 (i : Nat) (o : Op3) (f : E3) (Γ : G3) (P : Po) (x : D) (L : Lh) : Prop := wpR (f Γ L) (kAug2 i o x Γ P) (P.exk Γ)
@[simp ↓] theorem wp_sAug {i : Nat} {o : Op3} {f : E3} : wpS (sAug i o f Γ L) P = wpR (eVar i Γ L) (kAug1 i o f Γ P) noE := by
  unfold sAug eVar
  rcases Γ[i]? with _ | _ | x
  · rfl
  · rfl
  · exact wpS_out2 fun _ _ => Eq.symm wpS_out'
@[simp] def kFor (g : Tg3) (b : S3) (Γ : G3) (P : Po) (it : It3) (L : Lh) : Prop := wpS (forL it.chk g b it.xs Γ L) P
@[simp ↓] theorem wp_sFor {f : I3} {g : Tg3} {b : S3} : wpS (sFor f g b Γ L) P = wpR (f Γ L) (kFor g b Γ P) (P.exk Γ) := wpS_out'
/-! loops -/
def Po.loop (P : Po) (I : G3 → Lh → Prop) : Po := ⟨I, P.rt, P.nx, I, P.ex⟩
@[simp] theorem Po.loop_nx {I : G3 → Lh → Prop} : (P.loop I).nx = I := rfl
@[simp] theorem Po.loop_rt {I : G3 → Lh → Prop} : (P.loop I).rt = P.rt := rfl
@[simp] theorem Po.loop_bk {I : G3 → Lh → Prop} : (P.loop I).bk = P.nx := rfl
@[simp] theorem Po.loop_ct {I : G3 → Lh → Prop} : (P.loop I).ct = I := rfl
@[simp] theorem Po.loop_ex {I : G3 → Lh → Prop} : (P.loop I).ex = P.ex := rfl
theorem wp_forN {chk : Lh → Prop} {g : Tg3} {b : S3} {xs : List D} (I : Nat → G3 → Lh → Prop) (h0 : I 0 Γ L) (hc : ∀ i Γ L, i ≤ xs.length → I i Γ L → chk L)
    (step : ∀ i (h : i < xs.length) Γ L, I i Γ L → wpS (g xs[i] Γ L) ⟨fun Γ L => wpS (b Γ L) (P.loop (I (i + 1))), fun _ _ => False, fun _ _ => False, fun _ _ => False, P.ex⟩) (hn : ∀ Γ L, I xs.length Γ L → P.nx Γ L) : wpS (forL chk g b xs Γ L) P := by
  have key : ∀ (k i : Nat), xs.length - i = k → i ≤ xs.length → ∀ Γ L, I i Γ L → wpS (forL chk g b (xs.drop i) Γ L) P := by
    intro k
    induction k with
    | zero =>
      intro i hk hi Γ L h
      obtain rfl : i = xs.length := by omega
      rw [List.drop_length, forL, if_pos (hc _ _ _ (Nat.le_refl _) h)]
      exact hn _ _ h
    | succ k ih =>
      intro i hk hi Γ L h
      have hlt : i < xs.length := by omega
      rw [List.drop_eq_getElem_cons hlt, forL, if_pos (hc _ _ _ hi h)]
      have s := step i hlt Γ L h
      cases hg : g xs[i] Γ L with
      | nx Γ1 L1 =>
        rw [hg] at s
        simp only [wpS] at s
        simp only []
        cases hb : b Γ1 L1 with
        | nx Γ2 L2 => rw [hb] at s; exact ih (i + 1) (by omega) hlt Γ2 L2 s
        | ct Γ2 L2 => rw [hb] at s; exact ih (i + 1) (by omega) hlt Γ2 L2 s
        | brk Γ2 L2 => rw [hb] at s; exact s
        | ret d L2 => rw [hb] at s; exact s
        | exn c Γ2 L2 => rw [hb] at s; exact s
        | stuck => rw [hb] at s; exact s.elim
      | exn c Γ1 L1 => rw [hg] at s; exact s
      | ret _ _ => rw [hg] at s; exact s.elim
      | brk _ _ => rw [hg] at s; exact s.elim
      | ct _ _ => rw [hg] at s; exact s.elim
      | stuck => rw [hg] at s; exact s.elim
  have := key xs.length 0 (by omega) (by omega) Γ L h0
  rwa [List.drop_zero] at this
/-- .. the invariant out of sight -/
def Po.body (P : Po) (b : S3) (J : G3 → Lh → Prop) : Po := ⟨fun Γ L => wpS (b Γ L) (P.loop J), fun _ _ => False, fun _ _ => False, fun _ _ => False, P.ex⟩
@[simp] theorem Po.body_nx {b : S3} {J : G3 → Lh → Prop} : (P.body b J).nx Γ L = wpS (b Γ L) (P.loop J) := rfl
@[simp] theorem Po.body_ex {b : S3} {J : G3 → Lh → Prop} : (P.body b J).ex = P.ex := rfl
theorem wp_for {chk : Lh → Prop} {g : Tg3} {b : S3} {xs : List D} (I : Nat → G3 → Lh → Prop) (h0 : I 0 Γ L) (hc : ∀ i Γ L, i ≤ xs.length → I i Γ L → chk L)
    (step : ∀ i (h : i < xs.length) Γ L (J : G3 → Lh → Prop), (∀ Γ L, I (i + 1) Γ L → J Γ L) → I i Γ L → wpS (g xs[i] Γ L) (P.body b J)) (hn : ∀ Γ L, I xs.length Γ L → P.nx Γ L) : wpS (forL chk g b xs Γ L) P :=
  wp_forN I h0 hc (fun i h Γ L hI => step i h Γ L _ (fun _ _ q => q) hI) hn
theorem wp_while {c : T3} {b : S3} (I : Nat → G3 → Lh → Prop) (m : Nat) (h0 : I m Γ L)
    (step : ∀ m Γ L, I m Γ L → wpR (c Γ L) (fun t L1 => if t = true then wpS (b Γ L1) (P.loop fun Γ2 L2 => ∃ m', m' < m ∧ I m' Γ2 L2) else P.nx Γ L1) (fun c L1 => P.ex c Γ L1)) : wpS (sWhile c b Γ L) P := by
  have key : ∀ m Γ L, I m Γ L → ∃ n o, wN n c b Γ L = o ∧ wpS o P := by
    intro m
    induction m using Nat.strongRecOn with
    | ind m ih =>
      intro Γ L h
      have s := step m Γ L h
      cases hc : c Γ L with
      | val t L1 =>
        rw [hc] at s
        cases t with
        | false => exact ⟨1, .nx Γ L1, by simp only [wN, wStep, hc, R3.out]; rfl, s⟩
        | true =>
          simp only [wpR, if_true] at s
          cases hb : b Γ L1 with
          | nx Γ2 L2 =>
            rw [hb] at s
            obtain ⟨m', h1, h2⟩ := s
            obtain ⟨n, o, e1, e2⟩ := ih m' h1 Γ2 L2 h2
            exact ⟨n + 1, o, by simp only [wN, wStep, hc, R3.out, if_true, hb]; exact e1, e2⟩
          | ct Γ2 L2 =>
            rw [hb] at s
            obtain ⟨m', h1, h2⟩ := s
            obtain ⟨n, o, e1, e2⟩ := ih m' h1 Γ2 L2 h2
            exact ⟨n + 1, o, by simp only [wN, wStep, hc, R3.out, if_true, hb]; exact e1, e2⟩
          | brk Γ2 L2 => rw [hb] at s; exact ⟨1, .nx Γ2 L2, by simp only [wN, wStep, hc, R3.out, if_true, hb], s⟩
          | ret d L2 => rw [hb] at s; exact ⟨1, .ret d L2, by simp only [wN, wStep, hc, R3.out, if_true, hb], s⟩
          | exn d Γ2 L2 => rw [hb] at s; exact ⟨1, .exn d Γ2 L2, by simp only [wN, wStep, hc, R3.out, if_true, hb], s⟩
          | stuck => rw [hb] at s; exact s.elim
      | exn d L1 => rw [hc] at s; exact ⟨1, .exn d Γ L1, by simp only [wN, wStep, hc, R3.out], s⟩
      | stuck => rw [hc] at s; exact s.elim
  obtain ⟨n, o, e1, e2⟩ := key m Γ L h0
  have ho : o ≠ .stuck := fun z => by rw [z] at e2; exact e2
  rw [sWhile_eq n e1 ho]
  exact e2
/-- a while by a measure, the invariant out of sight; t what the test says -/
def kWh (b : S3) (Γ : G3) (P : Po) (J : G3 → Lh → Prop) (t : Bool) (L : Lh) : Prop := if t = true then wpS (b Γ L) (P.loop J) else P.nx Γ L
@[simp] theorem kWh_true {b : S3} {J : G3 → Lh → Prop} : kWh b Γ P J true L = wpS (b Γ L) (P.loop J) := by simp [kWh]
@[simp] theorem kWh_false {b : S3} {J : G3 → Lh → Prop} : kWh b Γ P J false L = P.nx Γ L := by simp [kWh]
theorem wp_wh {p : Prop} [Decidable p] {b : S3} {J : G3 → Lh → Prop} (h1 : p → wpS (b Γ L) (P.loop J)) (h2 : ¬ p → P.nx Γ L) : kWh b Γ P J (decide p) L := by
  by_cases h : p
  · rw [decide_eq_true h, kWh_true]; exact h1 h
  · rw [decide_eq_false h, kWh_false]; exact h2 h
theorem wp_whl {c : T3} {b : S3} (I : Nat → G3 → Lh → Prop) (m : Nat) (h0 : I m Γ L)
    (step : ∀ m Γ L (J : G3 → Lh → Prop), (∀ m' Γ L, m' < m → I m' Γ L → J Γ L) → I m Γ L → wpR (c Γ L) (kWh b Γ P J) (P.exk Γ)) : wpS (sWhile c b Γ L) P :=
  wp_while I m h0 fun m Γ L h => step m Γ L (fun Γ2 L2 => ∃ m', m' < m ∧ I m' Γ2 L2) (fun m' Γ L h1 h2 => ⟨m', h1, h2⟩) h
end
/-- a comprehension, by what its list is: ys i the answer of turn i, none where the test says no -/
theorem wp_lc {chk : Lh → Prop} {g : Tg3} {t : T3} {e : E3} {Γ0 : G3} {n : Nat} {xs : List D} {Q : D → Lh → Prop} {E : Str → Lh → Prop} {L : Lh} (I : Nat → List D → Lh → Prop) (h0 : I 0 [] L) (hL : L[n]? = some (.lst []))
    (hc : ∀ i ys L, i ≤ xs.length → L[n]? = some (.lst ys) → I i ys L → chk L)
    (step : ∀ i (h : i < xs.length) ys L, L[n]? = some (.lst ys) → I i ys L → wpS (g xs[i] Γ0 L) ⟨fun Γ1 L1 => wpR (t Γ1 L1) (fun b L2 => if b = true then wpR (e Γ1 L2) (fun y L3 => L3[n]? = some (.lst ys) ∧ ys.length ≤ 100000 ∧ I (i + 1) (ys ++ [y]) (L3.set n (.lst (ys ++ [y])))) noE else L2[n]? = some (.lst ys) ∧ I (i + 1) ys L2) noE, fun _ _ => False, fun _ _ => False, fun _ _ => False, fun _ _ _ => False⟩)
    (hn : ∀ ys L, L[n]? = some (.lst ys) → I xs.length ys L → Q (.loc n) L) : wpR (lcL chk g t e Γ0 n xs L) Q E := by
  have key : ∀ (k i : Nat), xs.length - i = k → i ≤ xs.length → ∀ ys L, L[n]? = some (.lst ys) → I i ys L → wpR (lcL chk g t e Γ0 n (xs.drop i) L) Q E := by
    intro k
    induction k with
    | zero =>
      intro i hk hi ys L hL h
      obtain rfl : i = xs.length := by omega
      rw [List.drop_length, lcL, if_pos (hc _ _ _ (Nat.le_refl _) hL h)]
      exact hn _ _ hL h
    | succ k ih =>
      intro i hk hi ys L hL h
      have hlt : i < xs.length := by omega
      rw [List.drop_eq_getElem_cons hlt, lcL, if_pos (hc _ _ _ hi hL h)]
      have s := step i hlt ys L hL h
      cases hg : g xs[i] Γ0 L with
      | nx Γ1 L1 =>
        rw [hg] at s
        simp only [wpS] at s
        simp only []
        cases ht : t Γ1 L1 with
        | val b L2 =>
          rw [ht] at s
          cases b with
          | true =>
            simp only [wpR, if_true] at s
            simp only []
            cases he : e Γ1 L2 with
            | val y L3 =>
              rw [he] at s
              obtain ⟨s1, s2, s3⟩ := s
              simp only [s1, if_pos s2]
              have hn' : n < L3.length := (List.getElem?_eq_some_iff.mp s1).1
              exact ih (i + 1) (by omega) hlt _ _ (List.getElem?_set_self hn') s3
            | exn _ _ => rw [he] at s; exact s.elim
            | stuck => rw [he] at s; exact s.elim
          | false =>
            simp only [wpR] at s
            rw [if_neg Bool.false_ne_true] at s
            exact ih (i + 1) (by omega) hlt _ _ s.1 s.2
        | exn _ _ => rw [ht] at s; exact s.elim
        | stuck => rw [ht] at s; exact s.elim
      | exn c Γ1 L1 => rw [hg] at s; exact s.elim
      | ret _ _ => rw [hg] at s; exact s.elim
      | brk _ _ => rw [hg] at s; exact s.elim
      | ct _ _ => rw [hg] at s; exact s.elim
      | stuck => rw [hg] at s; exact s.elim
  have := key xs.length 0 (by omega) (by omega) [] L hL h0
  rwa [List.drop_zero] at this
/-! functions -/
noncomputable def Po.fn (L : Lh) (Q : D → Lh → Prop) (E : Str → Lh → Prop) : Po := ⟨fun _ L' => wpR (trunc L .non L') Q E, fun d L' => wpR (trunc L d L') Q E, fun _ _ => False, fun _ _ => False, fun c _ L' => wpR (truncX L c L') Q E⟩
section
variable {L0 : Lh} {Q : D → Lh → Prop} {E : Str → Lh → Prop} {Γ : G3} {L : Lh}
@[simp] theorem Po.fn_nx : (Po.fn L0 Q E).nx Γ L = wpR (trunc L0 .non L) Q E := rfl
@[simp] theorem Po.fn_rt {d : D} : (Po.fn L0 Q E).rt d L = wpR (trunc L0 d L) Q E := rfl
@[simp] theorem Po.fn_ex {c : Str} : (Po.fn L0 Q E).ex c Γ L = wpR (truncX L0 c L) Q E := rfl
theorem wp_run {k n : Nat} {t : S3} {ds : List D} (hk : ds.length = k) (h : wpS (t (ds.map some ++ List.replicate (n - ds.length) none) L) (Po.fn L Q E)) : wpR (run3 k n t ds L) Q E := by
  unfold run3
  rw [if_pos hk]
  cases ht : t (ds.map some ++ List.replicate (n - ds.length) none) L with
  | nx Γ L' => rw [ht] at h; exact h
  | ret d L' => rw [ht] at h; exact h
  | exn c Γ L' => rw [ht] at h; exact h
  | brk _ _ => rw [ht] at h; exact h.elim
  | ct _ _ => rw [ht] at h; exact h.elim
  | stuck => rw [ht] at h; exact h.elim
@[simp] theorem trunc_sameS {d : D} (h : closed L.length d = true) : trunc L d L = .val d L := trunc_same h
@[simp] theorem trunc_flatS {G : Lh} {d : D} (h : closed L.length d = true) : trunc L d (L ++ G) = .val d L := trunc_flat h
@[simp] theorem truncX_sameS {c : Str} : truncX L c L = .exn c L := by have := truncX_eq (L := L) (G := []) (c := c); simpa using this
@[simp] theorem truncX_flatS {G : Lh} {c : Str} : truncX L c (L ++ G) = .exn c L := truncX_eq
/-- whatever comes back, the cells that stood stand as they were told behind -/
theorem wp_trunc {d : D} {L' : Lh} (hd : closed L.length d = true) (h1 : L'.take L.length = L → Q d L) (h2 : Q d L') : wpR (trunc L d L') Q E := by
  by_cases h : L'.take L.length = L
  · have : trunc L d L' = .val d L := by unfold trunc; rw [if_pos h, if_pos hd]
    rw [this]; exact h1 h
  · rw [trunc_other h]; exact h2
theorem wp_truncL {m : Nat} {xs : List D} {L' : Lh} (hm : L.length ≤ m) (hx : L'[m]? = some (.lst xs)) (hc : closeds L.length xs = true) (h1 : L'.take L.length = L → Q (.loc L.length) (L ++ [.lst xs])) (h2 : Q (.loc m) L') : wpR (trunc L (.loc m) L') Q E := by
  by_cases h : L'.take L.length = L
  · rw [trunc_new h hm hx hc]; exact h1 h
  · rw [trunc_other h]; exact h2
@[simp] theorem wp_truncN {xs : List D} (hc : closeds L.length xs = true) : wpR (trunc L (.loc L.length) (L ++ [.lst xs])) Q E = Q (.loc L.length) (L ++ [.lst xs]) := by
  rw [trunc_new (by simp) (Nat.le_refl _) (by simp) hc]; rfl
end
/-! ## slices of lists with a step -/
def stepL {α : Type} (xs : List α) (lo hi st : Option Int) : List α := (sliceRange (sliceBounds lo hi st xs.length).1 (sliceBounds lo hi st xs.length).2.1 (sliceBounds lo hi st xs.length).2.2).filterMap (xs[·]?)
theorem fm_vals : ∀ (is : List Nat) {vs : List V} {us : List Value}, Vals vs us → Vals (is.filterMap (vs[·]?)) (is.filterMap (us[·]?))
  | [], _, _, _ => .nil
  | i :: is, vs, us, r => by
    have ih := fm_vals is r
    rw [List.filterMap_cons, List.filterMap_cons]
    cases e : vs[i]? with
    | none =>
      have : us[i]? = none := by
        rw [List.getElem?_eq_none_iff] at e ⊢
        rw [← r.length]; exact e
      rw [this]; exact ih
    | some v =>
      obtain ⟨u, hu, ru⟩ := r.get e
      rw [hu]
      exact .cons ru ih
theorem fm_reps {K : PySem.W.Frag} {ρ : List Addr} {H : Hp} : ∀ (is : List Nat) {ds : List D} {vs : List V}, Reps K ρ H ds vs → Reps K ρ H (is.filterMap (ds[·]?)) (is.filterMap (vs[·]?))
  | [], _, _, _ => rfl
  | i :: is, ds, vs, r => by
    have ih := fm_reps is r
    rw [List.filterMap_cons, List.filterMap_cons]
    cases e : ds[i]? with
    | none =>
      have : vs[i]? = none := by
        rw [List.getElem?_eq_none_iff] at e ⊢
        rw [Reps.length r]; exact e
      rw [this]; exact ih
    | some d =>
      obtain ⟨v, hv, rv⟩ := r.get e
      rw [hv]
      exact ⟨v, _, rfl, rv, ih⟩
def tStepL (K : PySem.W.Frag) (te : TE) (tl tu ts : TO) : TE := fun σ H Q => te σ H fun x H1 => tl σ H1 fun lo H2 => tu σ H2 fun hi H3 => ts σ H3 fun st H4 => ∃ a xs, x = .ref a ∧ SqL K H4 a xs ∧ st ≠ some 0 ∧ (stepL xs lo hi st).length ≤ sizeLine ∧ ∀ p, H4 p = none → Q (.ref p) (upd H4 p (.lst (stepL xs lo hi st)))
theorem pe_step {X : Cx} {e st : Expr} {lo hi : Option Expr} {te : TE} {tl tu ts : TO} {p3 pos : Pos} (he : PE X e te) (hl : PO X lo tl) (hu : PO X hi tu) (hst : PO X (some st) ts) : PE X (.Subscript e (.Slice lo hi (some st) p3) pos) (tStepL X.K te tl tu ts) := by
  refine ⟨fun pins s σ H Q I h => ?_⟩
  refine Subscript_ (thn (he.run pins s σ H _ I h) fun v s1 ⟨x, H1, I1, r1, q1⟩ => ?_)
  refine wpAny_Slice (thn (hl.run pins s1 σ H1 _ I1 q1) fun vl s2 ⟨l, H2, I2, pl, q2⟩ => ?_)
  refine thn (hu.run pins s2 σ H2 _ I2 q2) fun vu s3 ⟨u, H3, I3, pu, q3⟩ => ?_
  refine thn (hst.run pins s3 σ H3 _ I3 q3) fun vs s4 ⟨o, H4, I4, ps, q4⟩ => ?_
  obtain ⟨a, xs, ex, hx, h0, hsz, q⟩ := q4
  subst ex
  cases r1
  have I5 : Inv X pins σ H4 { s4 with heap := s4.heap.push { cls := .type "slice", data := .fields #[vl, vu, vs] } } := I4.kept (t' := s4.toks) fun b ob q => Heap.get?_push_of_some _ q
  obtain ⟨its, r, ht, hz⟩ := I5.list hx
  have hlen := r.length
  show wpAny (model X.prog X.w) X.A (subscriptTail e (.Slice lo hi (some st) p3) (.ref a) (.ref s4.heap.objs.size)) _ _ _
  refine tail_any (ops := [.ref a, .ref s4.heap.objs.size]) ht.isList.typeIs (PySem.slot_list_getitem.lookup) ?_ (by with_unfolding_all rfl)
  refine wpAny_getItem_list_slice ht.isList (Heap.IsSliceOf.new _ vl vu vs) pl pu ps h0 ?_ (by rw [List.size_toArray]; omega)
  refine ⟨.ref _, _, I5.laid (t' := s4.toks) (o := .lst (stepL xs l u o)) (fun b ob q => Heap.get?_push_of_some _ q) (Nat.le_refl _) ?_, rfl, q _ (I5.hok.fresh (Nat.le_refl _))⟩
  have hv : Vals (stepL xs l u o) (slicePick its.toArray l u o).toList := by
    unfold slicePick stepL
    rw [List.size_toArray, ← hlen]
    have := fm_vals (sliceRange (sliceBounds l u o xs.length).1 (sliceBounds l u o xs.length).2.1 (sliceBounds l u o xs.length).2.2) r
    simpa using this
  exact ⟨hsz, _, 0, hv, Heap.get?_push_size _ rfl⟩
/-- a slice with a step -/
def stepD (x : D) (a b c : Option Int) (L : Lh) : R3 D := match items x L with
  | some xs => if c ≠ some 0 ∧ (stepL xs a b c).length ≤ 100000 then .val (.loc L.length) (L ++ [.lst (stepL xs a b c)]) else .stuck
  | none => .stuck
def eSlS (f : E3) (lo hi st : O3) (Γ : G3) (L : Lh) : R3 D := (f Γ L).bind fun x L1 => (lo Γ L1).bind fun a L2 => (hi Γ L2).bind fun b L3 => (st Γ L3).bind fun c L4 => stepD x a b c L4
theorem e3_sliceS {X : Cx} {W : WX} {e st : Expr} {lo hi : Option Expr} {p2 pos : Pos} {f : E3} {fl fh fs : O3} (he : PE3 X W e f) (hl : PO3 X W lo fl) (hh : PO3 X W hi fh) (hs : PO3 X W (some st) fs) : PE3 X W (.Subscript e (.Slice lo hi (some st) p2) pos) (eSlS f fl fh fs) := by
  obtain ⟨te, p, q⟩ := he
  obtain ⟨tl, pl, ql⟩ := hl
  obtain ⟨th, ph, qh⟩ := hh
  obtain ⟨ts, pst, qs⟩ := hs
  refine ⟨_, pe_step p pl ph pst, fun σ H ρ Γ L Q E A h => ?_⟩
  refine q σ H ρ Γ L _ E A (hbind h fun x L1 vx H1 ρ1 e1 r1 A1 h1 => ?_)
  refine ql σ H1 ρ1 Γ L1 _ (E.mono e1) A1 (hbind h1 fun a L2 va H2 ρ2 e2 r2 A2 h2 => ?_)
  obtain rfl : a = va := r2
  refine qh σ H2 ρ2 Γ L2 _ (E.mono (e1.trans e2)) A2 (hbind h2 fun b L3 vb H3 ρ3 e3 r3 A3 h3 => ?_)
  obtain rfl : b = vb := r3
  refine qs σ H3 ρ3 Γ L3 _ (E.mono ((e1.trans e2).trans e3)) A3 (hbind h3 fun c L4 vc H4 ρ4 e4 r4 A4 h4 => ?_)
  obtain rfl : c = vc := r4
  have r5 := Rep.mono ((e2.trans e3).trans e4) x r1
  unfold stepD at h4
  split at h4
  · rename_i xs hx
    split at h4
    · rename_i hc
      obtain ⟨ad, vs, rfl, hsq, hr⟩ := items_sq A4 hx r5
      have hl := Reps.length hr
      have hr2 : Reps X.K ρ4 H4 (stepL xs a b c) (stepL vs a b c) := by unfold stepL; rw [hl]; exact fm_reps _ hr
      refine ⟨ad, vs, rfl, hsq, hc.1, ?_, hold_new h4 A4 hr2⟩
      rw [Reps.length hr2]
      exact size_le hc.2
    · exact h4.elim
  · exact h4.elim
@[simp] def kSlS4 (x : D) (a b : Option Int) (Q : D → Lh → Prop) (E : Str → Lh → Prop) (c : Option Int) (L : Lh) : Prop := wpR (stepD x a b c L) Q E
@[simp] def kSlS3 (st : O3) (Γ : G3) (x : D) (a : Option Int) (Q : D → Lh → Prop) (E : Str → Lh → Prop) (b : Option Int) (L : Lh) : Prop := wpR (st Γ L) (kSlS4 x a b Q E) E
@[simp] def kSlS2 (hi st : O3) (Γ : G3) (x : D) (Q : D → Lh → Prop) (E : Str → Lh → Prop) (a : Option Int) (L : Lh) : Prop := wpR (hi Γ L) (kSlS3 st Γ x a Q E) E
@[simp] def kSlS1 (lo hi st : O3) (Γ : G3) (Q : D → Lh → Prop) (E : Str → Lh → Prop) (x : D) (L : Lh) : Prop := wpR (lo Γ L) (kSlS2 hi st Γ x Q E) E
@[simp ↓] theorem wp_eSlS {f : E3} {lo hi st : O3} {Γ : G3} {L : Lh} {Q : D → Lh → Prop} {E : Str → Lh → Prop} : wpR (eSlS f lo hi st Γ L) Q E = wpR (f Γ L) (kSlS1 lo hi st Γ Q E) E := wpR_bind2 fun _ _ => Eq.symm (wpR_bind2 fun _ _ => Eq.symm (wpR_bind2 fun _ _ => Eq.symm wpR_bind'))
theorem stepL_rev {α : Type} (xs : List α) : stepL xs none none (some (-1)) = xs.reverse := by
  unfold stepL
  rw [PySem.W.krv_bounds]
  show (sliceRange ((xs.length : Int) - 1) (-1) (-1)).filterMap (xs[·]?) = _
  have h := PySem.W.krv_all xs.toArray
  simp only [List.size_toArray, List.getElem?_toArray] at h
  rw [PySem.W.krv_sliceRange, PySem.W.krv_range, List.filterMap_reverse, h]
theorem stepD_rev {L : Lh} {n : Nat} {xs : List D} (h : L[n]? = some (.lst xs)) (hl : xs.length ≤ 100000) : stepD (.loc n) none none (some (-1)) L = .val (.loc L.length) (L ++ [.lst xs.reverse]) := by
  unfold stepD
  rw [items_loc h]
  simp only [stepL_rev]
  rw [if_pos ⟨by decide, by rw [List.length_reverse]; exact hl⟩]
/-! ## a, b, c = x, y, z of local names -/
def sPar3 (i j l : Nat) (fa fb fc : E3) (Γ : G3) (L : Lh) : Out := (fa Γ L).out Γ fun x L1 => (fb Γ L1).out Γ fun y L2 => (fc Γ L2).out Γ fun z L3 => .nx (((Γ.set i (some x)).set j (some y)).set l (some z)) L3
theorem s3_par3 {X : Cx} {W : WX} {pos : Pos} {a b c : Expr} {fa fb fc : E3} (i j l : Nat) {x y z : Str} {px py pz pt : Pos} {kt k2 pt2} (hc : X.calm = true) (ha : PE3 X W a fa) (hb : PE3 X W b fb) (hcc : PE3 X W c fc) (hN : X.N.Nodup) (hi : X.N[i]? = some x := by rfl) (hj : X.N[j]? = some y := by rfl) (hl : X.N[l]? = some z := by rfl) (hij : i ≠ j := by decide) (hil : i ≠ l := by decide) (hjl : j ≠ l := by decide)
    (hx : X.env.scope.names.lookup x = some .local := by rfl) (hy : X.env.scope.names.lookup y = some .local := by rfl) (hz : X.env.scope.names.lookup z = some .local := by rfl) (hab : starEach [a, b, c] X.env = (false, eval a X.env) :: starEach [b, c] X.env := by rfl) (hbb : starEach [b, c] X.env = (false, eval b X.env) :: starEach [c] X.env := by rfl) (hcb : starEach [c] X.env = (false, eval c X.env) :: starEach [] X.env := by rfl)
    (hw : swappedStores [.Tuple [.Name x px, .Name y py, .Name z pz] kt pt] (.Tuple [a, b, c] k2 pt2) X.env = pure (some [x, y, z]) := by rfl)
    (hs : swapsWithSole [.Tuple [.Name x px, .Name y py, .Name z pz] kt pt] (.Tuple [a, b, c] k2 pt2) pos.line X.env = pure false := by rfl) :
    PS3 X W (.Assign [.Tuple [.Name x px, .Name y py, .Name z pz] kt pt] (.Tuple [a, b, c] k2 pt2) pos) (sPar3 i j l fa fb fc) := by
  obtain ⟨ta, p, q⟩ := ha
  obtain ⟨tb, p2, q2⟩ := hb
  obtain ⟨tc, p3, q3⟩ := hcc
  refine ⟨_, ps_par3 hc hN hi hj hl hij hil hjl hx hy hz (pa_cons p (pa_cons p2 (pa_cons p3 pa_nil hcb) hbb) hab) hw hs, fun σ H ρ Γ L Dn E A h => ?_⟩
  refine q σ H ρ Γ L _ E A (sout E h fun x L1 vx H1 ρ1 e1 r1 A1 h1 => ?_)
  refine q2 σ H1 ρ1 Γ L1 _ (E.mono e1) A1 (sout (E.mono e1) h1 fun y L2 vy H2 ρ2 e2 r2 A2 h2 => ?_)
  refine q3 σ H2 ρ2 Γ L2 _ (E.mono (e1.trans e2)) A2 (sout (E.mono (e1.trans e2)) h2 fun z L3 vz H3 ρ3 e3 r3 A3 h3 => ?_)
  exact ⟨vx, vy, vz, rfl, h3 _ H3 ρ3 (Ext.refl _ _) ((((E.mono ((e1.trans e2).trans e3)).set (Rep.mono (e2.trans e3) x r1)).set (Rep.mono e3 y r2)).set r3) A3⟩
@[simp] def kPar33 (i j l : Nat) (x y : D) (Γ : G3) (P : Po) (z : D) (L : Lh) : Prop := P.nx (((Γ.set i (some x)).set j (some y)).set l (some z)) L
@[simp] def kPar32 (i j l : Nat) (h : E3) (x : D) (Γ : G3) (P : Po) (y : D) (L : Lh) : Prop := wpR (h Γ L) (kPar33 i j l x y Γ P) (P.exk Γ)
@[simp] def kPar31 (i j l : Nat) (g h : E3) (Γ : G3) (P : Po) (x : D) (L : Lh) : Prop := wpR (g Γ L) (kPar32 i j l h x Γ P) (P.exk Γ)
@[simp ↓] theorem wp_sPar3 {i j l : Nat} {f g h : E3} {Γ : G3} {L : Lh} {P : Po} : wpS (sPar3 i j l f g h Γ L) P = wpR (f Γ L) (kPar31 i j l g h Γ P) (P.exk Γ) := wpS_out2 fun _ _ => Eq.symm (wpS_out2 fun _ _ => Eq.symm wpS_out')
/-! in a tuple of plain things -/
def flD : D → Option V
  | .non => some .non
  | .bl b => some (.bl b)
  | .int i => some (.int i)
  | .str x => some (.str x)
  | _ => none
def fInT (neg : Bool) (x y : D) (L : Lh) : R3 D := match flD x, y with
  | some v, .tup ds => (match opts flD ds with
    | some vs => .val (.bl (if neg then !inV v vs else inV v vs)) L
    | none => .stuck)
  | _, _ => .stuck
section
variable {K : PySem.W.Frag} {ρ : List Addr} {H : Hp}
theorem flD_rep {d : D} {v w : V} (h : flD d = some v) (r : Rep K ρ H d w) : w = v ∧ flatV v = true := by
  cases d <;> simp [flD] at h <;> subst h <;> cases r <;> exact ⟨rfl, rfl⟩
theorem flD_reps : ∀ {ds : List D} {vs ws : List V}, opts flD ds = some vs → Reps K ρ H ds ws → ws = vs ∧ vs.all flatV = true
  | [], vs, ws, h, r => by
    cases h; cases r; exact ⟨rfl, rfl⟩
  | d :: ds, vs, ws, h, r => by
    obtain ⟨w, ws', rfl, r1, r2⟩ := r
    simp only [opts] at h
    split at h
    · rename_i v vs' h1 h2
      cases h
      obtain ⟨rfl, f1⟩ := flD_rep h1 r1
      obtain ⟨rfl, f2⟩ := flD_reps h2 r2
      exact ⟨rfl, by rw [List.all_cons, f1, f2]; rfl⟩
    · cases h
end
theorem ok_inT {K : PySem.W.Frag} : OpOk K (rIn K false) (fInT false) := by
  intro W σ ρ H L Q x y vx vy A rx ry h
  unfold fInT at h
  split at h
  · rename_i v ds h1
    split at h
    · rename_i vs h2
      obtain ⟨a, ws, rfl, hq, rs⟩ := ry
      obtain ⟨rfl, f1⟩ := flD_rep h1 rx
      obtain ⟨rfl, f2⟩ := flD_reps h2 rs
      exact ⟨a, ws, rfl, .inr hq, f1, f2, h.mk A rfl⟩
    · exact h.elim
  · exact h.elim
theorem ok_notinT {K : PySem.W.Frag} : OpOk K (rIn K true) (fInT true) := by
  intro W σ ρ H L Q x y vx vy A rx ry h
  unfold fInT at h
  split at h
  · rename_i v ds h1
    split at h
    · rename_i vs h2
      obtain ⟨a, ws, rfl, hq, rs⟩ := ry
      obtain ⟨rfl, f1⟩ := flD_rep h1 rx
      obtain ⟨rfl, f2⟩ := flD_reps h2 rs
      exact ⟨a, ws, rfl, .inr hq, f1, f2, h.mk A rfl⟩
    · exact h.elim
  · exact h.elim
theorem fInT_int (neg : Bool) (v : Int) (xs : List Int) (L : Lh) : fInT neg (.int v) (.tup (xs.map .int)) L = .val (.bl (if neg then !decide (v ∈ xs) else decide (v ∈ xs))) L := by
  have e : opts flD (xs.map D.int) = some (xs.map V.int) := by
    induction xs with
    | nil => rfl
    | cons x xs ih => exact opts_cons rfl ih
  have e2 : inV (.int v) (xs.map V.int) = decide (v ∈ xs) := by
    unfold inV
    induction xs with
    | nil => rfl
    | cons x xs ih =>
      rw [List.map_cons, List.any_cons, ih (by
        cases h : opts flD (xs.map D.int) with
        | none => simp only [List.map_cons, opts, flD, h] at e; cases e
        | some vs => simp only [List.map_cons, opts, flD, h] at e; cases e; rfl)]
      have : eqV (.int x) (.int v) = decide (v = x) := by
        show (x == v) = _
        by_cases h : x = v
        · subst h; simp
        · simp [h, Ne.symm h]
      rw [this]
      by_cases h : v = x <;> simp [h]
  unfold fInT
  simp only [flD, e, e2]
/-! list(range(n)) -/
def eLRg (f : E3) (Γ : G3) (L : Lh) : R3 D := (f Γ L).bind fun x L1 => match x with
  | .int n => if 0 ≤ n ∧ n ≤ 100000 then .val (.loc L1.length) (L1 ++ [.lst (rngD 0 n.toNat)]) else .stuck
  | _ => .stuck
section
variable {X : Cx} {W : WX} {a : Expr} {f : E3}
theorem reps_ints {K : PySem.W.Frag} {ρ : List Addr} {H : Hp} (f : Nat → Int) : ∀ l : List Nat, Reps K ρ H (l.map fun i => D.int (f i)) (l.map fun i => V.int (f i))
  | [] => rfl
  | i :: l => ⟨_, _, rfl, rfl, reps_ints f l⟩
theorem reps_rng {K : PySem.W.Frag} {ρ : List Addr} {H : Hp} {n : Int} (h : 0 ≤ n) : Reps K ρ H (rngD 0 n.toNat) (rgV 0 n) := by
  unfold rngD rgV
  rw [Int.sub_zero]
  exact reps_ints (fun i => 0 + (i : Nat)) _
theorem e3_lrg1 {p p2 pos pos2 : Pos} (hc : X.calm = true) (hml : X.mg "list" = none) (hmr : X.mg "range" = none) (he : PE3 X W a f) (hgl : Gl X "list" := by rfl) (hgr : Gl X "range" := by rfl)
    (na : starEach [a] X.env = (false, eval a X.env) :: starEach [] X.env := by rfl) (na2 : starEach [Expr.Call (.Name "range" p2) [a] [] pos2] X.env = (false, eval (Expr.Call (.Name "range" p2) [a] [] pos2) X.env) :: starEach [] X.env := by rfl) :
    PE3 X W (.Call (.Name "list" p) [.Call (.Name "range" p2) [a] [] pos2] [] pos) (eLRg f) := by
  obtain ⟨ta, pe, q⟩ := he
  refine ⟨_, pe_listRg hc hgl hml (prg_1 hgr hmr pe na) na2, fun σ H ρ Γ L Q E A h => ?_⟩
  refine q σ H ρ Γ L _ E A (hbind h fun x L1 vx H1 ρ1 e1 r1 A1 h1 => ?_)
  split at h1
  · rename_i n
    cases r1
    split at h1
    · rename_i hn
      exact ⟨n, rfl, .of_le (by omega) (by omega) (by omega) hn.1, hold_new h1 A1 (reps_rng hn.1)⟩
    · exact h1.elim
  · exact h1.elim
theorem wp_eLRg {f : E3} {Γ : G3} {L : Lh} {Q : D → Lh → Prop} {E : Str → Lh → Prop} : wpR (eLRg f Γ L) Q E = wpR (f Γ L) (fun x L1 => wpR (match x with
  | .int n => if 0 ≤ n ∧ n ≤ 100000 then .val (.loc L1.length) (L1 ++ [.lst (rngD 0 n.toNat)]) else .stuck
  | _ => .stuck : R3 D) Q E) E := wpR_bind'
end
/-! ## repr of data: for a body that knows that no repr is under way (the law's own) -/
def reprOk (d : PyData) : Prop := d.showable = true ∧ d.hasDict = false ∧ d.depth ≤ 20 ∧ d.shown.length ≤ sizeLine
noncomputable def fRepr (xs : List D) (L : Lh) : R3 D := match xs with
  | [.tup ys] => (match dat 8 L (.tup ys) with
    | some d => if reprOk d then .val (.str d.shown) L else .stuck
    | none => .stuck)
  | [.loc n] => (match dat 8 L (.loc n) with
    | some d => if reprOk d then .val (.str d.shown) L else .stuck
    | none => .stuck)
  | _ => .stuck
def rRepr (K : PySem.W.Frag) (xs : List V) (H : Hp) (Q : VK) : Prop := ∃ a d, xs = [.ref a] ∧ Dp K H (.ref a) d ∧ reprOk d ∧ Q (.str d.shown) H
theorem ok_repr {K : PySem.W.Frag} : CaOk K (rRepr K) fRepr := by
  intro W σ ρ H L Q xs vs A r h
  unfold fRepr at h
  split at h
  · obtain ⟨v, rfl, r1⟩ := r.inv1
    split at h
    · rename_i d hd
      split at h
      · rename_i ho
        have dp := dat_dp A 8 _ v d hd r1
        obtain ⟨a, _, rfl, _⟩ := r1
        exact ⟨a, d, rfl, dp, ho, h.mk A rfl⟩
      · exact h.elim
    · exact h.elim
  · obtain ⟨v, rfl, r1⟩ := r.inv1
    split at h
    · rename_i d hd
      split at h
      · rename_i ho
        have dp := dat_dp A 8 _ v d hd r1
        obtain ⟨a, rfl, _⟩ := r1
        exact ⟨a, d, rfl, dp, ho, h.mk A rfl⟩
      · exact h.elim
    · exact h.elim
  · exact h.elim
theorem call_repr3 {X : Cx} (hg : X.A.guards = some []) (hu : X.A.units + 64 < cLine) : CallR X (.builtin "repr") (rRepr X.K) := by
  intro pins s σ H xs us Q I r h
  obtain ⟨a, d, rfl, dp, ho, q⟩ := h
  obtain ⟨u, rfl, e⟩ := vals1 r
  obtain rfl : u = .ref a := e
  obtain ⟨as, rd⟩ := Dp.reads I d (.ref a) (.ref a) dp rfl
  have hd := ho.2.2.1
  exact repr_of_reads' rd ho.1 (fun z => by rw [ho.2.1] at z; cases z) hg (by omega) (fun _ _ z => z) (fun h' u tk hk => ⟨.str d.shown, H, I.kept hk, ⟨u, rfl⟩, q⟩) ho.2.2.2
/-! texts told apart -/
def fEqS (x y : D) (L : Lh) : R3 D := match x, y with
  | .str a, .str b => .val (.bl (decide (a = b))) L
  | _, _ => .stuck
def fNeS (x y : D) (L : Lh) : R3 D := match x, y with
  | .str a, .str b => .val (.bl (!decide (a = b))) L
  | _, _ => .stuck
theorem str_dec {a b : Str} : decide (V.str a = V.str b) = decide (a = b) := by
  by_cases h : a = b
  · subst h; simp
  · have : V.str a ≠ V.str b := fun z => h (V.str.inj z)
    simp [h]
theorem ok_eqS {K : PySem.W.Frag} : OpOk K rEq fEqS := by
  intro W σ ρ H L Q x y vx vy A rx ry h
  unfold fEqS at h
  split at h
  · rename_i a b
    rw [show vx = .str a from rx, show vy = .str b from ry]
    exact ⟨rfl, by rw [str_dec]; exact h.mk A rfl⟩
  · exact h.elim
theorem ok_neS {K : PySem.W.Frag} : OpOk K rNe fNeS := by
  intro W σ ρ H L Q x y vx vy A rx ry h
  unfold fNeS at h
  split at h
  · rename_i a b
    rw [show vx = .str a from rx, show vy = .str b from ry]
    exact ⟨rfl, by rw [str_dec]; exact h.mk A rfl⟩
  · exact h.elim
/-! ## the law's own function, called from nowhere -/
structure TopOk (P : Program) (w : World) (K : PySem.W.Frag) (mg : Str → Option Value) (base : Heap) (f : Addr) (fd : FuncData) (ps : List Str) (sp : Sp) : Prop where
  go : ∀ (s : Shared) (H : Hp) (args : Args) (us : List Value) (vs : List V) (Q : VK) (E : XK), Env0 P w K mg base callerA [] s H → BindsTo s fd args (ps.zip us) → Vals vs us → sp vs H Q E →
    codeAny (model P w) callerA (.call (.ref f) args) (CR (L2.CX P w) [] P w H s Q E) s
theorem TopOk.of {P : Program} {w : World} {K : PySem.W.Frag} {mg : Str → Option Value} {base : Heap} {k : Nat} {f : Addr} {fd : FuncData} {ps : List Str} {sp : Sp} (F : FnOk P w K mg base (L2.CX P w) k f fd ps sp) (hr : Room k callerA) : TopOk P w K mg base f fd ps sp :=
  ⟨fun s H args us vs Q E e b r h => F.run callerA [] s H args us vs Q E hr e b r h⟩
/-- what a body does at the top, by its promise there -/
theorem top_of {P : Program} {w : World} {K : PySem.W.Frag} {mg : Str → Option Value} {base : Heap} {x q : Str} {pr : Arguments} {bd : List Stmt} {sc : Scope} {dvs : List V} {kws : List (Str × V)} {f : Addr} {fd : FuncData} {N ps : List Str} {k : Nat} {sp : Sp}
    (F : FunD K x q pr bd sc dvs kws f fd) (S : FnScope N ps sc) (hr : Room (k + 1) callerA) (hlen : ∀ vs H Q E, sp vs H Q E → vs.length = ps.length)
    (hb : ∀ (cv : Value) (s : Shared) (H : Hp) (vs : List V) (Q : VK) (E : XK), Room k (cx3 P w K mg base N q sc f cv callerA [] s H E).A → sp vs H Q E → ∃ t, PSs (cx3 P w K mg base N q sc f cv callerA [] s H E) bd t ∧ t { nx := fun _ H' => Q .non H', rt := Q } (start N vs) H) :
    TopOk P w K mg base f fd ps sp := by
  obtain ⟨c0, d0, v1, v2, v3, v4, v5, cv, v6, sl, rfl, hlk, hco, _, _⟩ := F.ex
  constructor
  intro s H args us vs Q E start0 bind0 rel hsp
  have nvs := hlen vs H Q E hsp
  have kin : K.In s.heap := start0.mod.kin.keeps (fun b o z => (start0.bs b o z).1)
  have nl : s.heap.NoLimit := start0.mod.nolimit.keeps (fun b o z => (start0.bs b o z).1)
  have kinds : ∀ y ∈ ps.zip us, sc.names.lookup y.1 = some .local ∨ (sc.names.lookup y.1 = some .cell ∧ ((cellsFrom (s.heap.objs.size + 1) sc.names []).lookup y.1).isSome = true) := by
    rintro ⟨a, b⟩ hy
    have ha := (List.of_mem_zip hy).1
    exact (S.par a ha).elim Or.inl fun z => Or.inr ⟨z, PySem.W.cellsFrom_some _ _ _ (Or.inl z)⟩
  obtain ⟨t, body, tq⟩ := hb cv s H vs Q E (hr.deeper _) hsp
  refine codeAny_call_function hr.depth (kin _ _ hlk) rfl S.co S.gen rfl (PySem.W.codeRec_of kin hco) (bind0 _ _ _ _ (wpAny_newFunctionEnv_cells S.kind kinds ?_))
  rintro env rfl s1 x1
  refine ⟨nl.keeps x1.toInCall.keep, codeAny_func ?_⟩
  have I1 : Inv (cx3 P w K mg base N q sc f cv callerA [] s H E) [] (start N vs) H s1 := inv_start S hr.hd start0 nvs rel x1
  refine wpAny_mono (body.run [] s1 (start N vs) H _ I1 tq) ?_ (fun _ _ z => z)
  intro fl s2 z
  cases fl with
  | ret u =>
    obtain ⟨v, st2, H2, J, rv, hq⟩ := z
    exact ⟨v, H2, J.os, J.bare, J.base, J.hok, rv, hq⟩
  | next =>
    obtain ⟨st2, H2, J, hq⟩ := z
    exact ⟨.non, H2, J.os, J.bare, J.base, J.hok, (rfl : RelV .non Value.none), hq⟩
  | brk => exact z.elim fun _ z => z.elim fun _ z => z.2.elim
  | cont => exact z.elim fun _ z => z.elim fun _ z => z.2.elim
theorem top3 {P : Program} {w : World} {K : PySem.W.Frag} {mg : Str → Option Value} {base : Heap} {d : He.DefD} {f : Addr} {fd : FuncData} {N ps : List Str} {k n m : Nat} {t : S3}
    (F : FunD K d.name d.qual d.params d.body d.scope (d.dvs K) (d.kws K) f fd) (hd : d.dfl = []) (S : FnScope N ps d.scope) (hps : ps.length = m) (hN : N.length = n) (room : Room (k + 1) callerA)
    (hbody : ∀ (cdv : Value) (s : Shared) (H : Hp) (E : XK) (W : WX), Room k (cx3 P w K mg base N d.qual d.scope f cdv callerA [] s H E).A → (cx3 P w K mg base N d.qual d.scope f cdv callerA [] s H E).A.guards = some [] → Takes (cx3 P w K mg base N d.qual d.scope f cdv callerA [] s H E) W →
      PassesOwn (model P w) (cx3 P w K mg base N d.qual d.scope f cdv callerA [] s H E).A (cx3 P w K mg base N d.qual d.scope f cdv callerA [] s H E).env (cx3 P w K mg base N d.qual d.scope f cdv callerA [] s H E).xe → PSs3 (cx3 P w K mg base N d.qual d.scope f cdv callerA [] s H E) W d.body t) :
    TopOk P w K mg base f fd ps (emb K (run3 m n t)) := by
  have e : d.dvs K = [] := by unfold He.DefD.dvs; rw [hd]; rfl
  rw [e] at F
  refine top_of F S room (fun vs H Q E h => ?_) (fun cdv s H vs Q E hr h => ?_)
  · obtain ⟨ds, L, ρ, r, _, h⟩ := h
    unfold run3 at h
    split at h
    · rename_i hl
      rw [hps, Reps.length r]; exact hl
    · exact h.elim
  · obtain ⟨ds, L, ρ, r, Ab0, h⟩ := h
    have hW : Takes (cx3 P w K mg base N d.qual d.scope f cdv callerA [] s H E) (fun c dd _ H => E c dd H) := takes_of rfl rfl rfl rfl
    obtain ⟨ts, p, q⟩ := hbody cdv s H E _ hr rfl hW (passes_of (K := fun e s'' => L2.CX P w [] H s E e s'') rfl)
    refine ⟨ts, p, q _ H ρ _ L _ (env_start r n hN) Ab0 ?_⟩
    unfold run3 at h
    split at h
    · cases ht : t (ds.map some ++ List.replicate (n - ds.length) none) L with
      | nx Γ L' =>
        rw [ht] at h
        have h := trunc_hold Ab0 h
        exact fun σ' H' ρ' e E' A' => h .non H' ρ' e rfl A'
      | ret d L' =>
        rw [ht] at h
        exact trunc_hold Ab0 h
      | exn c Γ L' =>
        rw [ht] at h
        have h := truncX_hold Ab0 h
        exact fun σ' H' ρ' e E' A' => h H' ρ' e A'
      | brk _ _ => rw [ht] at h; exact h.elim
      | ct _ _ => rw [ht] at h; exact h.elim
      | stuck => rw [ht] at h; exact h.elim
    · exact h.elim
/-- the law's call, where nobody looks on -/
theorem law_call5 {P : Program} {w : World} {K : PySem.W.Frag} {mg mb : Str → Option Value} {fa sa : Addr} {fd : FuncData} {x : Str} {sp : Sp} {t1 : Shared} {us : List Value} {js : List Int}
    (kin : K.In t1.heap) (gns : t1.heap.Ns mainGlobals mg) (bns : t1.heap.Ns builtinsNs mb) (bbt : ∀ x : Str, x ≠ "__name__" → mb x = bootBuiltins x) (lim : t1.heap.NoLimit) (see : t1.heap.NoSeer) (gen0 : t1.gens = #[])
    (hsa : t1.heap.get? sa = some { cls := .type "list", data := .seq us.toArray }) (intJ : IntsAre us js) (small : js.length ≤ sizeLine) 
    (F : ∀ base : Heap, K.In base → base.Ns mainGlobals mg → base.NoSeer → TopOk P w K mg base fa fd [x] sp) (bnd : ∀ (s : Shared) (u : Value), BindsTo s fd ⟨[u], []⟩ [(x, u)])
    (ask : ∀ H : Hp, Only H → SqL K H sa (js.map V.int) → sp [.ref sa] H (fun v _ => v = .bl true) fun _ _ _ => False)
    (noX : ∀ H e s', L2.CX P w [] H t1 (fun _ _ _ => False) e s' → False) :
    codeAny (model P w) callerA (.call (.ref fa) ⟨[.ref sa], []⟩) (fun r t2 => r = .ok (.ret (.bool true)) ∧ OldK t1.heap t2.heap ∧ t2.os = t1.os ∧ AllBare t2.gens) t1 := by
  have relV := vals_ints intJ
  have lenE := intJ.length
  have main : ∀ H : Hp, Only H → SqL K H sa (js.map V.int) → HOk P w H t1.heap → (∀ b, H b ≠ none → b = sa) → (H sa ≠ none → K.lookup sa = none) →
      codeAny (model P w) callerA (.call (.ref fa) ⟨[.ref sa], []⟩) (fun r t2 => r = .ok (.ret (.bool true)) ∧ OldK t1.heap t2.heap ∧ t2.os = t1.os ∧ AllBare t2.gens) t1 := by
    intro H only sq hok alone notK
    have free : ∀ (b : Addr) (o : Obj), t1.heap.get? b = some o → o ≠ { cls := .type "list", data := .seq us.toArray } → H b = none := fun b o e ne => by
      by_cases q : H b = none
      · exact q
      · have e2 := alone b q
        rw [e2, hsa] at e
        exact absurd (Option.some.inj e).symm ne
    have freeD : ∀ (b : Addr) (o : Obj), t1.heap.get? b = some o → ∀ es ep, o.data = .dict es ep → H b = none := fun b o e es ep d => free b o e fun z => by
      rw [z] at d
      have d2 : Data.seq us.toArray _ = Data.dict es ep := d
      cases d2
    have freeM : ∀ (b : Addr) (o : Obj), t1.heap.get? b = some o → o.cls = .type "module" → H b = none := fun b o e c => free b o e fun z => by
      rw [z] at c
      have c2 : Value.type "list" = Value.type "module" := c
      injection c2 with c3
      exact absurd c3 (by decide)
    have hid : ∀ {b : Addr} {m : Str → Option Value}, t1.heap.Ns b m → (hidT t1.heap H).Ns b m := fun {b m} z => by
      obtain ⟨o, es, ep, e, d, r⟩ := z
      exact ⟨o, es, ep, hidT_get e (freeD b o e es ep d), d, r⟩
    have kinB : K.In (hidT t1.heap H) := fun b o e => hidT_get (kin b o e) (by
      by_cases q : H b = none
      · exact q
      · have e2 := alone b q
        subst e2
        rw [notK q] at e
        cases e)
    have limB : (hidT t1.heap H).NoLimit := by
      obtain ⟨mc, h1, h2⟩ := lim
      exact ⟨mc, hid h1, h2⟩
    have md : Mod K mg (hidT t1.heap H) := ⟨kinB, hid gns, ⟨mb, hid bns, bbt⟩, limB⟩
    have see2 := noSeer_hid (H := H) see freeD freeM
    have start : Env0 P w K mg (hidT t1.heap H) callerA [] t1 H := ⟨rfl, md, fun b o e => of_hidT e, Nat.le_of_eq (hidT_size _ _), trivial, fun b hb => (nomatch (show b ∈ ([] : List Addr) from hb)), hok, .of_eq gen0⟩
    have go := (F _ kinB (hid gns) see2).go t1 H ⟨[.ref sa], []⟩ [.ref sa] [.ref sa] _ _ start (bnd t1 (.ref sa)) (.cons rfl .nil) (ask H only sq)
    refine codeAny_mono go fun r t2 h => ?_
    match r, h with
    | .error e, h => exact (noX H e t2 h).elim
    | .ok .next, h => exact False.elim h
    | .ok .brk, h => exact False.elim h
    | .ok .cont, h => exact False.elim h
    | .ok (.ret u), h =>
      obtain ⟨v, H', os, bare, un, hok', rel, (hv : v = .bl true)⟩ := h
      subst hv
      obtain rfl : u = Value.bool true := rel
      refine ⟨rfl, OldK.of_keep fun b o e => ?_, os, bare⟩
      rcases only b with z | ⟨ob, xs, z⟩
      · exact un.keep b o e z (fun w => nomatch (show b ∈ ([] : List Addr) from w)) (by simp)
      · obtain ⟨q1, _⟩ := hok b _ z
        obtain ⟨q2, _⟩ := hok' b _ (un.frzs b ob _ z)
        rw [e] at q1
        cases q1
        exact q2
  by_cases hk : K.lookup sa = none
  · refine main (fun b => if b = sa then some (.frz { cls := .type "list", data := .seq us.toArray } (.lst (js.map V.int))) else none) (fun b => ?_) (.inl (.inr ⟨_, if_pos rfl⟩)) (fun b u z => ?_) (fun b z => ?_) fun _ => hk
    · by_cases e : b = sa
      · exact .inr ⟨_, _, if_pos e⟩
      · exact .inl (if_neg e)
    · by_cases e : b = sa
      · have z2 := (if_pos e).symm.trans z
        cases z2
        rw [e]
        exact ⟨hsa, by rw [List.length_map]; exact small, us, _, relV, hsa⟩
      · have z2 := (if_neg e).symm.trans z
        cases z2
    · by_cases e : b = sa
      · exact e
      · exact absurd (if_neg e) z
  · obtain ⟨o, ho⟩ := Option.ne_none_iff_exists'.mp hk
    have e := kin sa o ho
    rw [hsa] at e
    cases e
    refine main (fun _ => none) (fun _ => .inl rfl) (.inr ⟨_, us.toArray, _, ho, rfl, rfl, rfl, ?_, ?_⟩) (fun b u z => ?_) (fun b z => absurd rfl z) fun z => absurd rfl z
    · rw [List.size_toArray, lenE]; exact small
    · simpa using relV
    · have z2 : (none : Option HO) = some u := z
      cases z2
/-- the end of a law, where nobody looks on -/
theorem law_walk5 {lw : PySem.W.OpenLaw} {n : Nat} {qq : Program} {ls : List Str} {Xp : (Str → Option Value) → Heap → Prop} {Yp : World → Heap → Prop} {dr : DefRec} {x : Str} {fn : Fn3}
    (hm : lw.most = some n) (hz : n ≤ sizeLine) (hd0 : dr.params.defaults = []) (him : importsNone qq = true)
    (get : ∀ (w : World) (mg : Str → Option Value) (fa : Addr) (h : Heap), Yp w h → h.Ns mainGlobals mg → mg dr.name = some (.ref fa) → ∃ (K : PySem.W.Frag) (fd : FuncData), K.In h ∧
      (∀ (s : Shared) (u : Value), BindsTo s fd ⟨[u], []⟩ [(x, u)]) ∧ ∀ base : Heap, K.In base → base.Ns mainGlobals mg → base.NoSeer → TopOk lw.prog w K mg base fa fd [x] (emb K fn))
    (holds : ∀ ns : List Int, ns.length ≤ n → ∃ L, fn [.rol (ns.map D.int)] [] = .val (.bl true) L) :
    PySem.W.WalkO qq ls Xp Yp lw.row.toRowW dr [] (fun f vs => PySem.call f vs) := by
  refine Att.attach_call hm hd0 ?_
  intro w t0 t1 mg mb fa ob m1 m2 m3 ad us js Gd Yd e1 e2 e3 e4 e5 e6 e7 e8
  obtain ⟨K, fd, inK, bnd, ok⟩ := get w mg fa _ Yd Gd.T.g e4
  refine law_call5 inK Gd.T.g Gd.T.b Gd.T.builtins Gd.T.nolimit (Gd.T.seer him) e8 e5 e6
    (Nat.le_trans e7 hz) ok bnd
    (fun H only sq => law_emb (holds js e7) only sq) ?_
  intro H ev t' z
  obtain ⟨_, _, _, _, _, _, _, _, _, _, _, _, y⟩ := z
  exact y.elim
/-! ## try .. except -/
def canS (K : PySem.W.Frag) (W : WX) (t : S3) : TS := fun Dn σ H => ∃ ρ Γ L, Env3 K ρ H σ Γ ∧ Ab K ρ H L ∧ SHold K W ρ H Dn (t Γ L)
theorem PSs3.can {X : Cx} {W : WX} {st : List Stmt} {t : S3} (h : PSs3 X W st t) : PSs X st (canS X.K W t) := by
  obtain ⟨ts, p, q⟩ := h
  exact ⟨fun pins s σ H D I ⟨ρ, Γ, L, E, A, h⟩ => p.run pins s σ H D I (q σ H ρ Γ L D E A h)⟩
/-- the name is gone behind the suite -/
def offS (i : Nat) : Out → Out
  | .nx Γ L => .nx (Γ.set i none) L
  | .ret d L => .ret d L
  | .brk Γ L => .brk (Γ.set i none) L
  | .ct Γ L => .ct (Γ.set i none) L
  | .exn _ _ _ => .stuck
  | .stuck => .stuck
/-- try: body / except x as n: suite; cs are the classes that come there; what the suite does hangs on the class alone -/
noncomputable def sTryAs (i : Nat) (cs : List Str) (body : S3) (hd : Addr → Str → S3) : S3 := fun Γ L => match body Γ L with
  | .exn c Γ' L' => if c ∈ cs then (if h : ∃ o, ∀ a : Addr, offS i (hd a c (Γ'.set i (some (.val (.ref a)))) L') = o then h.choose else .stuck) else .stuck
  | o => o
noncomputable def sTry0 (cs : List Str) (body : S3) (hd : S3) : S3 := fun Γ L => match body Γ L with
  | .exn c Γ' L' => if c ∈ cs then (match hd Γ' L' with
    | .exn _ _ _ => .stuck
    | o => o) else .stuck
  | o => o
theorem env_off {K : PySem.W.Frag} {ρ : List Addr} {H : Hp} {σ : L2.St} {Γ : G3} {i : Nat} (h : Env3 K ρ H σ Γ) : Env3 K ρ H (σ.set i none) (Γ.set i none) := ⟨by simp [h.1], fun j e q => by
  by_cases hj : i = j
  · subst hj
    by_cases hi : i < Γ.length
    · rw [List.getElem?_set_self hi] at q; cases q
    · rw [List.getElem?_eq_none (by simp; omega)] at q; cases q
  · rw [List.getElem?_set_ne hj] at q
    obtain ⟨u, a, b⟩ := h.2 j e q
    exact ⟨u, by rw [List.getElem?_set_ne hj]; exact a, b⟩⟩
theorem off_hold {K : PySem.W.Frag} {W W' : WX} {ρ : List Addr} {H : Hp} {Dn : Ends} {i : Nat} : ∀ {o : Out}, SHold K W ρ H Dn (offS i o) →
    SHold K W' ρ H { nx := fun σ' H' => Dn.nx (σ'.set i none) H', rt := Dn.rt, bk := fun σ' H' => Dn.bk (σ'.set i none) H', ct := fun σ' H' => Dn.ct (σ'.set i none) H' } o
  | .nx Γ L, h => fun σ' H' ρ' e E A => h _ H' ρ' e (env_off E) A
  | .ret d L, h => h
  | .brk Γ L, h => fun σ' H' ρ' e E A => h _ H' ρ' e (env_off E) A
  | .ct Γ L, h => fun σ' H' ρ' e E A => h _ H' ρ' e (env_off E) A
  | .exn _ _ _, h => h.elim
  | .stuck, h => h.elim
section
variable {X : Cx} {W : WX} {x n : Str} {i : Nat} {cs : List Str} {body suite : List Stmt} {b₀ : Stmt} {np pos pos' : Pos} {tb : S3} {hd : Addr → Str → S3} {hd0 : S3}
theorem s3_tryAs (hs : X.stack = X.env :: X.outer) (hf : X.env.frame = some X.env.locals) (tk : Takes X W) (hm : X.mg x = some (.ref (He.ga X.K x))) (hx : ∀ c ∈ cs, PySem.W.exmOne X.K (.ref (He.ga X.K c)) (.ref (He.ga X.K x)) = some true)
    (hb : ∀ (W' : WX) (pn : List (Addr × Obj)) (xe : Value → Shared → Prop), Takes (X.tr pn xe) W' → PassesOwn (model X.prog X.w) X.A X.env xe → PSs3 (X.tr pn xe) W' body tb)
    (hsu : ∀ (a : Addr) (oe : Obj) (c : Str) (pn : List (Addr × Obj)), c ∈ cs → Zc (.ref (He.ga X.K c)) none oe → (∃ vs, oe.data = .fields vs) → PSs3 (X.suite a ((a, oe) :: pn)) W0 (b₀ :: suite) (hd a c))
    (hN : X.N.Nodup) (hi : X.N[i]? = some n := by rfl) (hln : X.env.kindOf n = some .local := by rfl) (hg : Gl X x := by rfl) (hdb : (x == ("__debug__" : Str)) = false := by decide) :
    PS3 X W (.Try body [.ExceptHandler (some (.Name x np)) (some n) (b₀ :: suite) pos'] [] [] pos) (sTryAs i cs tb hd) := by
  refine ⟨_, ps_try_as (Wout := W) (tb := fun W' => canS X.K W' tb) (ts := fun a cls d Dn σ H => ∃ c, c ∈ cs ∧ cls = .ref (He.ga X.K c) ∧ d = none ∧ canS X.K W0 (hd a c) Dn σ H) hs hf hN hi hln ⟨hg, hdb, .inl hm⟩ tk (fun W' pn xe tk' hp => (hb W' pn xe tk' hp).can)
    (fun a oe cls d pn hz hf => ⟨fun pins s σ H D I ⟨c, hc, e1, e2, h⟩ => ?_⟩), fun σ H ρ Γ L Dn E A h => ⟨ρ, Γ, L, E, A, ?_⟩⟩
  · subst e1 e2
    exact (hsu a oe c pn hc hz hf).can.run pins s σ H D I h
  · unfold sTryAs at h
    cases ht : tb Γ L with
    | nx Γ1 L1 => rw [ht] at h; exact h
    | ret d L1 => rw [ht] at h; exact h
    | brk Γ1 L1 => rw [ht] at h; exact h
    | ct Γ1 L1 => rw [ht] at h; exact h
    | stuck => rw [ht] at h; exact h.elim
    | exn c Γ1 L1 =>
      rw [ht] at h
      dsimp only at h
      split at h
      · rename_i hc
        split at h
        · rename_i ho
          have hh := ho.choose_spec
          revert hh h
          generalize ho.choose = o
          intro h hh
          intro σ1 H1 ρ1 e1 E1 A1
          refine ⟨true, hx c hc, fun _ a ha => ⟨c, hc, rfl, rfl, ρ1, _, L1, E1.set (i := i) (d := .val (.ref a)) (v := .ref a) rfl, A1, off_hold (W := W) ?_⟩, fun z => nomatch z⟩
          rw [hh a]
          exact SHold.ext e1 h
        · exact h.elim
      · exact h.elim
theorem s3_try0 (hs : X.stack = X.env :: X.outer) (hf : X.env.frame = some X.env.locals) (tk : Takes X W) (hm : X.mg x = some (.ref (He.ga X.K x))) (hx : ∀ c ∈ cs, PySem.W.exmOne X.K (.ref (He.ga X.K c)) (.ref (He.ga X.K x)) = some true)
    (hb : ∀ (W' : WX) (pn : List (Addr × Obj)) (xe : Value → Shared → Prop), Takes (X.tr pn xe) W' → PassesOwn (model X.prog X.w) X.A X.env xe → PSs3 (X.tr pn xe) W' body tb)
    (hsu : ∀ (a : Addr) (oe : Obj) (pn : List (Addr × Obj)), PSs3 (X.suite a ((a, oe) :: pn)) W0 (b₀ :: suite) hd0)
    (hg : Gl X x := by rfl) (hdb : (x == ("__debug__" : Str)) = false := by decide) :
    PS3 X W (.Try body [.ExceptHandler (some (.Name x np)) none (b₀ :: suite) pos'] [] [] pos) (sTry0 cs tb hd0) := by
  refine ⟨_, ps_try_only (Wout := W) (tb := fun W' => canS X.K W' tb) (ts := fun a cls d => canS X.K W0 hd0) hs hf ⟨hg, hdb, .inl hm⟩ tk (fun W' pn xe tk' hp => (hb W' pn xe tk' hp).can)
    (fun a oe cls d pn hz hf => (hsu a oe pn).can), fun σ H ρ Γ L Dn E A h => ⟨ρ, Γ, L, E, A, ?_⟩⟩
  unfold sTry0 at h
  cases ht : tb Γ L with
  | nx Γ1 L1 => rw [ht] at h; exact h
  | ret d L1 => rw [ht] at h; exact h
  | brk Γ1 L1 => rw [ht] at h; exact h
  | ct Γ1 L1 => rw [ht] at h; exact h
  | stuck => rw [ht] at h; exact h.elim
  | exn c Γ1 L1 =>
    rw [ht] at h
    dsimp only at h
    split at h
    · rename_i hc
      intro σ1 H1 ρ1 e1 E1 A1
      refine ⟨true, hx c hc, fun _ a ha => ⟨ρ1, _, L1, E1, A1, ?_⟩, fun z => nomatch z⟩
      cases hh : hd0 Γ1 L1 with
      | nx Γ2 L2 => rw [hh] at h; exact SHold.ext e1 (W := W) (r := .nx Γ2 L2) h
      | ret d L2 => rw [hh] at h; exact SHold.ext e1 (W := W) (r := .ret d L2) h
      | brk Γ2 L2 => rw [hh] at h; exact SHold.ext e1 (W := W) (r := .brk Γ2 L2) h
      | ct Γ2 L2 => rw [hh] at h; exact SHold.ext e1 (W := W) (r := .ct Γ2 L2) h
      | stuck => rw [hh] at h; exact h.elim
      | exn c2 Γ2 L2 => rw [hh] at h; exact h.elim
    · exact h.elim
end
theorem Sr.tr {X : Cx} (q : Sr X) (pn : List (Addr × Obj)) (xe : Value → Shared → Prop) : Sr (X.tr pn xe) := ⟨q.seer, q.tree, q.st⟩
/-! ## isinstance of what is caught -/
def PCl (X : Cx) (e : Expr) (c : Value) : Prop := ∃ v, PE X e (tC v) ∧ ∀ u, RelV v u → u = c
def PCls (X : Cx) (es : List Expr) (cs : List Value) : Prop := ∃ vs : List V, PA X es (fun _ H Q => Q vs H) ∧ vs.length = cs.length ∧ ∀ us, Vals vs us → us = cs
section
variable {X : Cx} {W : WX} {x : Str} {pos : Pos} {e : Expr} {es : List Expr} {c : Value} {cs : List Value}
theorem pcl_glob (hm : X.mg x = some (.ref (He.ga X.K x))) (hg : Gl X x := by rfl) (hd : (x == ("__debug__" : Str)) = false := by decide) : PCl X (.Name x pos) (.ref (He.ga X.K x)) := ⟨.ref (He.ga X.K x), pe_glob hg hm rfl hd, fun u r => r⟩
theorem pcl_blt {T : String} (hm : X.mg x = none) (hg : Gl X x := by rfl) (hv : bootBuiltins x = some (.type T) := by decide +kernel) (hn : x ≠ "__name__" := by decide) (hd : (x == ("__debug__" : Str)) = false := by decide) : PCl X (.Name x pos) (.type T) :=
  ⟨.ty T, pe_bltn (v := .ty T) hg hm hv rfl hn hd, fun u r => r⟩
theorem pcls_nil : PCls X [] [] := ⟨[], pa_nil, rfl, fun us r => by cases r; rfl⟩
theorem pcls_cons (h : PCl X e c) (hr : PCls X es cs) (hs : starEach (e :: es) X.env = (false, eval e X.env) :: starEach es X.env := by rfl) : PCls X (e :: es) (c :: cs) := by
  obtain ⟨v, p, q⟩ := h
  obtain ⟨vs, p2, hv, q2⟩ := hr
  refine ⟨v :: vs, pa_cons p p2 hs, by simp [hv], fun us r => ?_⟩
  cases r with
  | cons r1 r2 => rw [q _ r1, q2 _ r2]
/-- isinstance(e, (c, ..)), e the exception that the suite holds -/
def rIsEs (K : PySem.W.Frag) (D a : Addr) : List V → Hp → VK → Prop := fun xs H Q => ∃ (p : Addr) (vs : List V) (cs : List Value) (b : Bool), xs = [.ref a, .ref p] ∧ SqT K H p vs ∧ (∀ us, Vals vs us → us = cs) ∧ PySem.W.kitAny K (.ref D) cs = some b ∧ Q (.bl b) H
theorem call_isEs {a D : Addr} {oe : Obj} {pn : List (Addr × Obj)} (C : ExcC X.K D) (hz : Zc (.ref D) none oe) (hf : ∃ vs, oe.data = .fields vs) : CallR (X.suite a ((a, oe) :: pn)) (.builtin "isinstance") (rIsEs X.K D a) := by
  intro pins s σ H xs us Q I r h
  obtain ⟨p, vs, cs, b, rfl, hq, hcv, e, q⟩ := h
  obtain ⟨its, rv, pl, hz2⟩ := I.tuple hq
  have ec := hcv _ rv
  subst ec
  cases r with
  | cons rx rr =>
    cases rr with
    | cons rt rr =>
      cases rr
      cases rx
      cases rt
      obtain ⟨hget, _⟩ := I.pin (a, oe) (List.mem_append.mpr (.inl List.mem_cons_self))
      obtain ⟨vs, hv⟩ := hf
      have J : PySem.W.InstAt s.heap a oe D none := by
        obtain ⟨oc, od, oda, osl⟩ := oe
        obtain ⟨h1, h2⟩ := hz
        dsimp only at h1 h2 hv
        subst h1 h2 hv
        exact ⟨hget, rfl, rfl, trivial⟩
      obtain ⟨o, ho, hcls, n, hdat⟩ := pl
      obtain ⟨oc, od, oda, osl⟩ := o
      dsimp only at hcls hdat
      subst hcls hdat
      exact PySem.W.kia_tup (PySem.W.handS_kitx_exc C.hg C.hk C.hs C.hd C.ha C.hn C.ht C.hm) I.kIn J ho e (fun z => nomatch z) fun tk => ⟨.bl b, H, I.kept (t' := tk) fun _ _ z => z, rfl, q⟩
@[simp] noncomputable def eIsE (i : Nat) (a : Addr) (b : Bool) (Γ : G3) (L : Lh) : R3 D := match Γ[i]? with
  | some (some (.val (.ref a'))) => if a' = a then .val (.bl b) L else .stuck
  | _ => .stuck
theorem eIsE_hold {K : PySem.W.Frag} {σ : L2.St} {ρ : List Addr} {H : Hp} {Γ : G3} {L : Lh} {i : Nat} {a : Addr} {b : Bool} {Q : VK} (E : Env3 K ρ H σ Γ) (A : Ab K ρ H L) (h : Hold K W σ ρ H (Rep K) Q (eIsE i a b Γ L)) : σ[i]? = some (some (.ref a)) ∧ (∀ H' ρ', Ext ρ H ρ' H' → Ab K ρ' H' L → Q (.bl b) H') := by
  unfold eIsE at h
  split at h
  · rename_i a' q
    split at h
    · rename_i ea
      subst ea
      obtain ⟨v, e1, e2⟩ := E.2 i _ q
      rw [show v = .ref _ from e2] at e1
      exact ⟨e1, fun H' ρ' e A' => h _ H' ρ' e rfl A'⟩
    · exact h.elim
  · exact h.elim
theorem e3_isE {n : Str} {i : Nat} {p p1 pos : Pos} {ec : Expr} {a D : Addr} {oe : Obj} {pn : List (Addr × Obj)} {cv : Value} {b : Bool} (C : ExcC X.K D) (hz : Zc (.ref D) none oe) (hf : ∃ vs, oe.data = .fields vs)
    (hcl : PCl (X.suite a ((a, oe) :: pn)) ec cv) (hk : PySem.W.kitOne X.K (.ref D) cv = some b) (hm : X.mg "isinstance" = none)
    (hN : X.N[i]? = some n := by rfl) (hv : Vis X.env.scope n := by first | exact Or.inl rfl | exact Or.inr (Or.inl rfl) | exact Or.inr (Or.inr rfl)) (hd : (n == ("__debug__" : Str)) = false := by decide)
    (hcd : (n == ("__classdict__" : Str)) = false := by decide) (hg : Gl X "isinstance" := by rfl) (hs : starEach [.Name n p1, ec] X.env = (false, eval (.Name n p1) X.env) :: starEach [ec] X.env := by rfl) (hs2 : starEach [ec] X.env = [(false, eval ec X.env)] := by rfl)
    (hpl : (backTo pos (starEach [ec] X.env)).any (·.1) = false := by rfl) :
    PE3 (X.suite a ((a, oe) :: pn)) W (.Call (.Name "isinstance" p) [.Name n p1, ec] [] pos) (eIsE i a b) := by
  obtain ⟨v, pv, qv⟩ := hcl
  have pa1 : PA (X.suite a ((a, oe) :: pn)) [.Name n p1, ec] (tCons (tVar i) (tCons (tC v) tNil)) := pa_cons (pe_var hN hv hd hcd) (pa_cons pv pa_nil hs2) hs
  refine ⟨_, pe_callB (call_isE C hz hf) hg hm (by decide +kernel) pa1 (by decide) (by decide) hs hpl, fun σ H ρ Γ L Q E A h => ?_⟩
  obtain ⟨h1, h2⟩ := eIsE_hold E A h
  exact ⟨.ref a, h1, v, cv, b, rfl, qv, hk, h2 H ρ (Ext.refl _ _) A⟩
theorem e3_isEs {n : Str} {i k : Nat} {p p1 p2 pos : Pos} {es : List Expr} {a D : Addr} {oe : Obj} {pn : List (Addr × Obj)} {cvs : List Value} {b : Bool} (C : ExcC X.K D) (hz : Zc (.ref D) none oe) (hf : ∃ vs, oe.data = .fields vs)
    (hcl : PCls (X.suite a ((a, oe) :: pn)) es cvs) (hk : PySem.W.kitAny X.K (.ref D) cvs = some b) (hlen : cvs.length ≤ 1000) (hm : X.mg "isinstance" = none)
    (hN : X.N[i]? = some n := by rfl) (hv : Vis X.env.scope n := by first | exact Or.inl rfl | exact Or.inr (Or.inl rfl) | exact Or.inr (Or.inr rfl)) (hd : (n == ("__debug__" : Str)) = false := by decide)
    (hcd : (n == ("__classdict__" : Str)) = false := by decide) (hg : Gl X "isinstance" := by rfl) (hs : starEach [.Name n p1, .Tuple es k p2] X.env = (false, eval (.Name n p1) X.env) :: starEach [.Tuple es k p2] X.env := by rfl) (hs2 : starEach [.Tuple es k p2] X.env = [(false, eval (.Tuple es k p2) X.env)] := by rfl)
    (hpl : (backTo pos (starEach [.Tuple es k p2] X.env)).any (·.1) = false := by rfl) :
    PE3 (X.suite a ((a, oe) :: pn)) W (.Call (.Name "isinstance" p) [.Name n p1, .Tuple es k p2] [] pos) (eIsE i a b) := by
  obtain ⟨vs, pv, hvl, qv⟩ := hcl
  have pa1 : PA (X.suite a ((a, oe) :: pn)) [.Name n p1, .Tuple es k p2] (tCons (tVar i) (tCons (tTup fun _ H Q => Q vs H) tNil)) := pa_cons (pe_var hN hv hd hcd) (pa_cons (pe_tup pv) pa_nil hs2) hs
  refine ⟨_, pe_callB (call_isEs C hz hf) hg hm (by decide +kernel) pa1 (by decide) (by decide) hs hpl, fun σ H ρ Γ L Q E A h => ?_⟩
  obtain ⟨h1, h2⟩ := eIsE_hold E A h
  exact ⟨.ref a, h1, by rw [hvl]; exact Nat.le_trans hlen (by decide), fun p hp => ⟨p, vs, cvs, b, rfl, SqT.of upd_same, qv, hk, h2 _ ρ (ext_new hp) (A.new hp)⟩⟩
end
/-! ## the classes of refusals -/
def subX (c x : Str) : Bool := decide (c = x) || (decide (x = "EvenError") || decide (x = "ValueError"))
def excB (K : PySem.W.Frag) (D : Addr) : Bool :=
  decide (PySem.W.findIn K (.ref D) "__getattribute__" = some (some (.builtin "BaseException.__getattribute__"))) && (decide (PySem.W.findIn K (.ref D) "__getattr__" = some none) && (decide (PySem.W.subIn K (.ref D) (.type "BaseException") = some true) && (PySem.W.hasDictIn K D &&
  (decide (PySem.W.findIn K (.ref D) "__class__" = some (some (.builtin "object.__class__"))) && (decide (PySem.W.specialIn K (.builtin "object.__class__") "__get__" = some (some (.builtin "getset_descriptor.__get__"))) && (decide (PySem.W.takesIn K (.builtin "object.__class__") = some true) && decide (PySem.W.mroIn K D (.type "object") = some true)))))))
def excsB (K : PySem.W.Frag) (cs : List Str) : Bool := cs.all fun c => excB K (He.ga K c) && (decide (PySem.W.kitOne K (.ref (He.ga K c)) (.type "ValueError") = some true) && (decide (PySem.W.exmOne K (.ref (He.ga K c)) (.ref (He.ga K "EvenError")) = some true) && (decide (PySem.W.exmOne K (.ref (He.ga K c)) (.ref (He.ga K c)) = some true) && cs.all fun x => decide (PySem.W.kitOne K (.ref (He.ga K c)) (.ref (He.ga K x)) = some (subX c x)))))
structure Excs (K : PySem.W.Frag) (cs : List Str) : Prop where
  own : ∀ c ∈ cs, ExcC K (He.ga K c)
  exm : ∀ c ∈ cs, PySem.W.exmOne K (.ref (He.ga K c)) (.ref (He.ga K "EvenError")) = some true
  slf : ∀ c ∈ cs, PySem.W.exmOne K (.ref (He.ga K c)) (.ref (He.ga K c)) = some true
  ve : ∀ c ∈ cs, PySem.W.kitOne K (.ref (He.ga K c)) (.type "ValueError") = some (subX c "ValueError")
  one : ∀ c ∈ cs, ∀ x ∈ cs, PySem.W.kitOne K (.ref (He.ga K c)) (.ref (He.ga K x)) = some (subX c x)
theorem excs_of {K : PySem.W.Frag} {cs : List Str} (h : excsB K cs = true) : Excs K cs := by
  unfold excsB at h
  rw [List.all_eq_true] at h
  have hh : ∀ c ∈ cs, _ := fun c hc => h c hc
  simp only [Bool.and_eq_true, decide_eq_true_eq, List.all_eq_true, excB] at hh
  refine ⟨fun c hc => ?_, fun c hc => (hh c hc).2.2.1, fun c hc => (hh c hc).2.2.2.1, fun c hc => ?_, fun c hc x hx => (hh c hc).2.2.2.2 x hx⟩
  · obtain ⟨⟨h1, h2, h3, h4, h5, h6, h7, h8⟩, _⟩ := hh c hc
    exact ⟨h1, h2, h3, h4, h5, h6, h7, h8⟩
  · rw [(hh c hc).2.1]
    simp [subX]
theorem Excs.self {K : PySem.W.Frag} {cs : List Str} (E : Excs K cs) (x : Str) (hx : x ∈ cs) : ∀ c ∈ [x], PySem.W.exmOne K (.ref (He.ga K c)) (.ref (He.ga K x)) = some true := fun c hc => by
  obtain rfl : c = x := by simpa using hc
  exact E.slf c hx
theorem Excs.any {K : PySem.W.Frag} {cs : List Str} (E : Excs K cs) {c : Str} (hc : c ∈ cs) : ∀ xs : List Str, (∀ x ∈ xs, x ∈ cs) → PySem.W.kitAny K (.ref (He.ga K c)) (xs.map fun x => .ref (He.ga K x)) = some (xs.any (subX c))
  | [], _ => rfl
  | x :: r, h => by
    have e := E.one c hc x (h x (List.mem_cons_self ..))
    have ih := Excs.any E hc r fun y hy => h y (List.mem_cons_of_mem _ hy)
    rw [List.map_cons, PySem.W.kitAny, e, List.any_cons]
    cases subX c x with
    | true => rfl
    | false => simpa using ih
/-! in a tuple of data -/
def rInDT (K : PySem.W.Frag) : R2 := fun x y H Q => ∃ d ds, Dp K H x d ∧ Dp K H y (.tuple ds) ∧ SeqAt.shaped d = true ∧ SeqAt.shaped (.tuple ds) = true ∧ Q (.bl (ds.any fun z => PyData.eqv z d)) H
def rNotInDT (K : PySem.W.Frag) : R2 := fun x y H Q => ∃ d ds, Dp K H x d ∧ Dp K H y (.tuple ds) ∧ SeqAt.shaped d = true ∧ SeqAt.shaped (.tuple ds) = true ∧ Q (.bl (!ds.any fun z => PyData.eqv z d)) H
theorem room_in_shapedT {A : Around} {ds : List PyData} {d : PyData} (h : SeqAt.shaped d = true) (hu : A.units + 65 < cLine) : A.units + 1 + min (PyData.depthAll ds) d.depth < cLine := by
  have h1 := SeqAt.depth_of_shaped h
  have h2 : min (PyData.depthAll ds) d.depth ≤ d.depth := Nat.min_le_right _ _
  omega
theorem op_inDT {X : Cx} (hu : X.A.units + 65 < cLine) : OpR X (compareOp .In) (rInDT X.K) := by
  intro pins s σ H x y v u Q I rx ry h
  obtain ⟨d, ds, hd, he, sd, se, q⟩ := h
  obtain ⟨as, r1⟩ := Dp.reads I d x v hd rx
  obtain ⟨bs, r2⟩ := Dp.reads I (.tuple ds) y u he ry
  exact SeqAt.in_tuple_reads r2 r1 (SeqAt.canLay_of_shaped se) (SeqAt.canLay_of_shaped sd) (room_in_shapedT sd hu) ⟨.bl _, H, I, rfl, q⟩
theorem op_notInDT {X : Cx} (hu : X.A.units + 65 < cLine) : OpR X (compareOp .NotIn) (rNotInDT X.K) := by
  intro pins s σ H x y v u Q I rx ry h
  obtain ⟨d, ds, hd, he, sd, se, q⟩ := h
  obtain ⟨as, r1⟩ := Dp.reads I d x v hd rx
  obtain ⟨bs, r2⟩ := Dp.reads I (.tuple ds) y u he ry
  exact SeqAt.notIn_tuple_reads r2 r1 (SeqAt.canLay_of_shaped se) (SeqAt.canLay_of_shaped sd) (room_in_shapedT sd hu) ⟨.bl _, H, I, rfl, q⟩
def fInDT (neg : Bool) (x : D) (y : D) (L : Lh) : R3 D := match dat 8 L x, dat 8 L y with
  | some d, some (.tuple ds) => if (SeqAt.shaped d && SeqAt.shaped (.tuple ds)) = true then .val (.bl (if neg then !(ds.any fun z => PyData.eqv z d) else ds.any fun z => PyData.eqv z d)) L else .stuck
  | _, _ => .stuck
theorem ok_inDT {K : PySem.W.Frag} : OpOk K (rInDT K) (fInDT false) := by
  intro W σ ρ H L Q x y vx vy A rx ry h
  unfold fInDT at h
  split at h
  · rename_i d ds h1 h2
    split at h
    · rename_i hs
      rw [Bool.and_eq_true] at hs
      exact ⟨d, ds, dat_dp A 8 x vx d h1 rx, dat_dp A 8 y vy _ h2 ry, hs.1, hs.2, h.mk A rfl⟩
    · exact h.elim
  · exact h.elim
theorem ok_notinDT {K : PySem.W.Frag} : OpOk K (rNotInDT K) (fInDT true) := by
  intro W σ ρ H L Q x y vx vy A rx ry h
  unfold fInDT at h
  split at h
  · rename_i d ds h1 h2
    split at h
    · rename_i hs
      rw [Bool.and_eq_true] at hs
      exact ⟨d, ds, dat_dp A 8 x vx d h1 rx, dat_dp A 8 y vy _ h2 ry, hs.1, hs.2, h.mk A rfl⟩
    · exact h.elim
  · exact h.elim
/-! the place of an equal one in a list -/
noncomputable def mIndex (x : D) (xs : List D) (L : Lh) : R3 D := match x, xs with
  | .loc n, [y] => (match dat 8 L (.loc n), dat 8 L y with
    | some (.list ds), some d => if h : SeqAt.shaped (.list ds) = true ∧ SeqAt.shaped d = true ∧ ∃ j z, ds[j]? = some z ∧ PyData.eqv z d = true ∧ ∀ (m : Nat) (z' : PyData), m < j → ds[m]? = some z' → PyData.eqv z' d = false then .val (.int (h.2.2.choose : Nat)) L else .stuck
    | _, _ => .stuck)
  | _, _ => .stuck
theorem ok_index {K : PySem.W.Frag} : MtOk K "list" (rIndexD K) mIndex := by
  intro W σ ρ H L Q x xs vx vs A rx rxs h
  unfold mIndex at h
  split at h
  · rename_i n y
    obtain ⟨w, rfl, r1⟩ := rxs.inv1
    split at h
    · rename_i ds d h1 h2
      split at h
      · rename_i hh
        have dl := dat_dp A 8 _ vx _ h1 rx
        have dy := dat_dp A 8 _ w _ h2 r1
        obtain ⟨z, hz, hze, hno⟩ := hh.2.2.choose_spec
        obtain ⟨a, rfl, _⟩ := rx
        exact ⟨a, w, d, ds, hh.2.2.choose, z, rfl, rfl, dl, dy, hh.1, hh.2.1, hz, hze, hno, h.mk A rfl⟩
      · exact h.elim
    · exact h.elim
  · exact h.elim
/-! two tuples, one behind the other -/
def fAddT (x : D) (y : D) (L : Lh) : R3 D := match x, y with
  | .tup xs, .tup ys => if xs ≠ [] ∧ xs.length + ys.length ≤ 1000 then .val (.tup (xs ++ ys)) L else .stuck
  | _, _ => .stuck
theorem ok_addT {K : PySem.W.Frag} : OpOk K (rCatT K) fAddT := by
  intro W σ ρ H L Q x y vx vy A rx ry h
  unfold fAddT at h
  split at h
  · rename_i xs ys
    split at h
    · rename_i hc
      obtain ⟨a, vs, rfl, ha, r1⟩ := rx
      obtain ⟨b, us, rfl, hb, r2⟩ := ry
      have l1 := Reps.length r1
      have l2 := Reps.length r2
      refine ⟨a, b, vs, us, rfl, rfl, ha, hb, fun z => hc.1 ?_, ?_, fun z => ?_, fun _ p hp => ?_⟩
      · rw [z] at l1; exact List.eq_nil_of_length_eq_zero l1.symm
      · rw [l1, l2]; exact Nat.le_trans hc.2 (by decide)
      · subst z
        have : ys = [] := List.eq_nil_of_length_eq_zero l2.symm
        subst this
        rw [List.append_nil] at h
        exact h.mk A ⟨a, vs, rfl, ha, r1⟩
      · exact h _ _ ρ (ext_new hp) ⟨p, vs ++ us, rfl, SqT.of upd_same, Reps.append (Reps.mono (ext_new hp) _ r1) (Reps.mono (ext_new hp) _ r2)⟩ (A.new hp)
    · exact h.elim
  · exact h.elim
/-- a def that stands under another name -/
theorem def3x {P : Program} {w : World} {K : PySem.W.Frag} {mg : Str → Option Value} {base : Heap} {x : Str} {d : He.DefD} {f : Addr} {fd : FuncData} {N ps : List Str} {k n m : Nat} {t : S3}
    (F : FunD K d.name d.qual d.params d.body d.scope (d.dvs K) (d.kws K) f fd) (hd : d.dfl = []) (hm : mg x = some (.ref f)) (S : FnScope N ps d.scope) (hps : ps.length = m) (hN : N.length = n)
    (hbi : ∀ (kV doc pm : Value) (an : Option Addr) (cdv ct : Value) (us : List Value), us.length = ps.length → bindArgs (PySem.W.fnOf d.name d.qual d.params d.body d.scope .none kV doc pm an cdv ct) ⟨us, []⟩ = pure (ps.zip us))
    (hbody : ∀ (cdv : Value) (A : Around) (outer : List Env) (s : Shared) (H : Hp) (E : XK) (W : WX), Room k (cx3 P w K mg base N d.qual d.scope f cdv A outer s H E).A → Takes (cx3 P w K mg base N d.qual d.scope f cdv A outer s H E) W →
      PassesOwn (model P w) (cx3 P w K mg base N d.qual d.scope f cdv A outer s H E).A (cx3 P w K mg base N d.qual d.scope f cdv A outer s H E).env (cx3 P w K mg base N d.qual d.scope f cdv A outer s H E).xe → PSs3 (cx3 P w K mg base N d.qual d.scope f cdv A outer s H E) W d.body t) :
    DefAt P w K mg base x ps (k + 1) (run3 m n t) f fd := by
  have e : d.dvs K = [] := by unfold He.DefD.dvs; rw [hd]; rfl
  rw [e] at F
  exact ⟨fn4 F S hps hN hbody, hm, F.kp, F.bindsN hbi⟩
/-! ## max, min of a list of whole numbers -/
theorem foldl_max_le : ∀ (r : List Int) (n m : Int), n ≤ m → (∀ y ∈ r, y ≤ m) → r.foldl max n ≤ m
  | [], n, m, h, _ => h
  | x :: r, n, m, h, h2 => foldl_max_le r (max n x) m (by have := h2 x (by simp); omega) fun y hy => h2 y (by simp [hy])
theorem le_foldl_max : ∀ (r : List Int) (n : Int), n ≤ r.foldl max n ∧ ∀ y ∈ r, y ≤ r.foldl max n
  | [], n => ⟨Int.le_refl _, fun _ h => nomatch h⟩
  | x :: r, n => by
    obtain ⟨h1, h2⟩ := le_foldl_max r (max n x)
    refine ⟨by rw [List.foldl_cons]; omega, fun y hy => ?_⟩
    rw [List.foldl_cons]
    rcases List.mem_cons.mp hy with rfl | h
    · omega
    · exact h2 y h
theorem foldl_min_ge : ∀ (r : List Int) (n m : Int), m ≤ n → (∀ y ∈ r, m ≤ y) → m ≤ r.foldl min n
  | [], n, m, h, _ => h
  | x :: r, n, m, h, h2 => foldl_min_ge r (min n x) m (by have := h2 x (by simp); omega) fun y hy => h2 y (by simp [hy])
theorem foldl_min_le : ∀ (r : List Int) (n : Int), r.foldl min n ≤ n ∧ ∀ y ∈ r, r.foldl min n ≤ y
  | [], n => ⟨Int.le_refl _, fun _ h => nomatch h⟩
  | x :: r, n => by
    obtain ⟨h1, h2⟩ := foldl_min_le r (min n x)
    refine ⟨by rw [List.foldl_cons]; omega, fun y hy => ?_⟩
    rw [List.foldl_cons]
    rcases List.mem_cons.mp hy with rfl | h
    · omega
    · exact h2 y h
def fMax1 (xs : List D) (L : Lh) : R3 D := match xs with
  | [x] => (match (items x L).bind intsD with
    | some (n :: r) => .val (.int (r.foldl max n)) L
    | _ => .stuck)
  | _ => .stuck
def fMin1 (xs : List D) (L : Lh) : R3 D := match xs with
  | [x] => (match (items x L).bind intsD with
    | some (n :: r) => .val (.int (r.foldl min n)) L
    | _ => .stuck)
  | _ => .stuck
theorem ok_max1 {K : PySem.W.Frag} : CaOk K (rMax K) fMax1 := by
  intro W σ ρ H L Q xs vs A r h
  unfold fMax1 at h
  split at h
  · split at h
    · rename_i n rr hn
      obtain ⟨v, rfl, r1⟩ := r.inv1
      rw [Option.bind_eq_some_iff] at hn
      obtain ⟨ys, hy, hi⟩ := hn
      obtain ⟨a, us, rfl, hs, hr⟩ := items_sq A hy r1
      have e := ints_v hi hr
      subst e
      refine ⟨a, n :: rr, rfl, hs, by simp, fun m hm hle => ?_⟩
      obtain ⟨h1, h2⟩ := le_foldl_max rr n
      have h3 := foldl_max_le rr n m (hle n (by simp)) fun y hy => hle y (by simp [hy])
      have e : m = rr.foldl max n := by
        rcases List.mem_cons.mp hm with rfl | q
        · omega
        · have := h2 m q; omega
      rw [e]
      exact h.mk A rfl
    · exact h.elim
  · exact h.elim
theorem ok_min1 {K : PySem.W.Frag} : CaOk K (rMin K) fMin1 := by
  intro W σ ρ H L Q xs vs A r h
  unfold fMin1 at h
  split at h
  · split at h
    · rename_i n rr hn
      obtain ⟨v, rfl, r1⟩ := r.inv1
      rw [Option.bind_eq_some_iff] at hn
      obtain ⟨ys, hy, hi⟩ := hn
      obtain ⟨a, us, rfl, hs, hr⟩ := items_sq A hy r1
      have e := ints_v hi hr
      subst e
      refine ⟨a, n :: rr, rfl, hs, by simp, fun m hm hle => ?_⟩
      obtain ⟨h1, h2⟩ := foldl_min_le rr n
      have h3 := foldl_min_ge rr n m (hle n (by simp)) fun y hy => hle y (by simp [hy])
      have e : m = rr.foldl min n := by
        rcases List.mem_cons.mp hm with rfl | q
        · omega
        · have := h2 m q; omega
      rw [e]
      exact h.mk A rfl
    · exact h.elim
  · exact h.elim
/-! ## how often something is in a list -/
def rCountD (K : PySem.W.Frag) : V → List V → Hp → VK → Prop := fun x xs H Q => ∃ (a : Addr) (y : V) (d : PyData) (ds : List PyData), x = V.ref a ∧ xs = [y] ∧ Dp K H (V.ref a) (.list ds) ∧ Dp K H y d ∧
  SeqAt.shaped (.list ds) = true ∧ SeqAt.shaped d = true ∧ Q (.int ((ds.countP fun z => PyData.eqv z d : Nat) : Int)) H
theorem mt_countD {X : Cx} (hu : X.A.units + 65 < cLine) : MtR X "list.count" (rCountD X.K) := by
  intro pins s σ H x xs v us Q I rx rxs h
  obtain ⟨a, y, d, ds, rfl, rfl, hl, hy, sl, sd, q⟩ := h
  cases rx
  cases rxs with
  | cons ry rt =>
    rename_i uy ut
    cases rt
    obtain ⟨bs, r1⟩ := Dp.reads I d y uy hy ry
    have hxs : PyData.canLayAll0 ds = true := SeqAt.canLay_of_shaped sl
    have hroom : X.A.units + 1 + min (PyData.depthAll ds) d.depth < cLine := room_in_shaped sd hu
    cases hl with
    | lst hs ha =>
      obtain ⟨its, rv, ⟨⟨cls, dd, data, sls⟩, n, ho, hc, hdn, hdt⟩, hlen⟩ := I.list hs
      simp only at hc hdt
      subst hc hdt
      obtain ⟨as, h4⟩ := Dp.readsAll I ds _ its ha rv
      have hmap : its.map (SeqAt.readOf s.heap) = ds := SeqAt.readsAll_map ds its as hxs h4
      have ec : its.toArray.toList.countP (fun u => PyData.eqv (SeqAt.readOf s.heap u) d) = ds.countP fun z => PyData.eqv z d := by
        rw [← hmap, List.countP_map]; rfl
      refine call_meets PySem.F.slot_list_count ⟨_, ho, rfl⟩ PySem.F.entry_list_count (PySem.F.args_list_count_2 _ _)
        (SeqAt.list_countAt a its.toArray n dd sls uy (fun u => PyData.eqv (SeqAt.readOf s.heap u) d)) ⟨ho, SeqAt.items_eqAt (vs := its.toArray) (show ReadsAll s.heap its.toArray.toList ds as from h4) r1 hxs (SeqAt.canLay_of_shaped sd) hroom, ?_⟩
      rw [ec]
      exact ⟨.int (ds.countP fun z => PyData.eqv z d : Nat), H, I.tok _, ⟨_, rfl⟩, q⟩
def mCount (x : D) (xs : List D) (L : Lh) : R3 D := match x, xs with
  | .loc n, [y] => (match dat 8 L (.loc n), dat 8 L y with
    | some (.list ds), some d => if (SeqAt.shaped (.list ds) && SeqAt.shaped d) = true then .val (.int ((ds.countP fun z => PyData.eqv z d : Nat) : Int)) L else .stuck
    | _, _ => .stuck)
  | _, _ => .stuck
theorem ok_count {K : PySem.W.Frag} : MtOk K "list" (rCountD K) mCount := by
  intro W σ ρ H L Q x xs vx vs A rx rxs h
  unfold mCount at h
  split at h
  · rename_i n y
    obtain ⟨w, rfl, r1⟩ := rxs.inv1
    split at h
    · rename_i ds d h1 h2
      split at h
      · rename_i hh
        rw [Bool.and_eq_true] at hh
        have dl := dat_dp A 8 _ vx _ h1 rx
        have dy := dat_dp A 8 _ w _ h2 r1
        obtain ⟨a, rfl, _⟩ := rx
        exact ⟨a, w, d, ds, rfl, rfl, dl, dy, hh.1, hh.2, h.mk A rfl⟩
      · exact h.elim
    · exact h.elim
  · exact h.elim
/-! is True -/
def fIsB (x y : D) (L : Lh) : R3 D := match x, y with
  | .bl a, .bl b => .val (.bl (decide (a = b))) L
  | _, _ => .stuck
theorem ok_isB {K : PySem.W.Frag} : OpOk K rIsB fIsB := by
  intro W σ ρ H L Q x y vx vy A rx ry h
  unfold fIsB at h
  split at h
  · rename_i a b
    exact ⟨a, b, rx, ry, h.mk A rfl⟩
  · exact h.elim
/-! ## zip of three lists -/
def Itz3 (K : PySem.W.Frag) (a b c : Addr) : It :=
  ⟨fun i H => ∃ (xs ys zs : List V) (x y z : V), SqL K H a xs ∧ SqL K H b ys ∧ SqL K H c zs ∧ xs[i]? = some x ∧ ys[i]? = some y ∧ zs[i]? = some z,
    fun i H v H' => ∃ T x y z, v = .ref T ∧ H T = none ∧ H' = upd H T (.tup [x, y, z]) ∧ (∀ xs, SqL K H a xs → xs[i]? = some x) ∧ (∀ ys, SqL K H b ys → ys[i]? = some y) ∧ ∀ zs, SqL K H c zs → zs[i]? = some z,
    fun i H => ∃ xs ys zs : List V, SqL K H a xs ∧ SqL K H b ys ∧ SqL K H c zs ∧ i ≤ xs.length ∧ i ≤ ys.length ∧ i ≤ zs.length ∧ (xs.length = i ∨ ys.length = i ∨ zs.length = i)⟩
theorem sep3 {N a b c : Nat} (ha : a < N) (hb : b < N) (hc : c < N) : ZipSep3 (N + 5) (N + 3) (N + 4) N (N + 1) (N + 2) [N, a] [N + 1, b] [N + 2, c] :=
  zip_sep3 (N := N) (fp1 := [a]) (fp2 := [b]) (fp3 := [c]) (fun x hx => by rw [List.mem_singleton.mp hx]; exact ha) (fun x hx => by rw [List.mem_singleton.mp hx]; exact hb) (fun x hx => by rw [List.mem_singleton.mp hx]; exact hc)
abbrev fp3 (N : Nat) : List Addr := [N + 5, N + 3, N + 4, N, N + 1, N + 2]
theorem fp3_mem {N : Nat} {c : Addr} (h : c ∈ fp3 N) : c = N + 5 ∨ c = N + 3 ∨ c = N + 4 ∨ c = N ∨ c = N + 1 ∨ c = N + 2 := by simpa using h
theorem turn_zip3 {P : Program} {w : World} {K : PySem.W.Frag} {elts : List Expr} {kk : Nat} {tpos : Pos} {N a b c : Nat} (ha : a < N) (hb : b < N) (hc : c < N) :
    Turn P w K (.Tuple elts kk tpos) (Itz3 K a b c) (fp3 N) (N + 5) (fun i h => IsZip h (N + 5) (N + 3) (N + 4) .none ∧ IsTupOf3 h (N + 3) (.ref N) (.ref (N + 1)) (.ref (N + 2)) ∧ (∃ x y z, IsTupOf3 h (N + 4) x y z) ∧ h.IsListIter N a i ∧ h.IsListIter (N + 1) b i ∧ h.IsListIter (N + 2) c i) where
  mem := by simp
  obj := fun i h st d hd => by
    obtain ⟨hz, hTI, ⟨x, y, z, hTO⟩, ⟨o1, e1, _, d1⟩, ⟨o2, e2, _, d2⟩, ⟨o3, e3, _, d3⟩⟩ := st
    rcases fp3_mem hd with q | q | q | q | q | q
    · rw [q]; exact ⟨_, hz, fun v q => nomatch q⟩
    · rw [q]; exact ⟨_, hTI, fun v q => nomatch q⟩
    · rw [q]; exact ⟨_, hTO, fun v q => nomatch q⟩
    · rw [q]; exact ⟨o1, e1, fun v q => by rw [d1] at q; cases q⟩
    · rw [q]; exact ⟨o2, e2, fun v q => by rw [d2] at q; cases q⟩
    · rw [q]; exact ⟨o3, e3, fun v q => by rw [d3] at q; cases q⟩
  keep := fun i h h' st k => by
    obtain ⟨hz, hTI, ⟨x, y, z, hTO⟩, h1, h2, h3⟩ := st
    exact ⟨k (N + 5) (by simp) _ hz, k (N + 3) (by simp) _ hTI, ⟨x, y, z, k (N + 4) (by simp) _ hTO⟩, h1.at fun o q => k N (by simp) o q, h2.at fun o q => k (N + 1) (by simp) o q, h3.at fun o q => k (N + 2) (by simp) o q⟩
  item := by
    intro X hP hw hK hcm i pins s σ H E I hf st hg
    subst hP hw hK
    obtain ⟨hz, hTI, ⟨x0, y0, z0, hTO⟩, h1, h2, h3⟩ := st
    obtain ⟨xs, ys, zs, x, y, z, hqx, hqy, hqz, hx, hy, hzz⟩ := hg
    obtain ⟨its, rv, p, _⟩ := I.list hqx
    obtain ⟨its2, rv2, p2, _⟩ := I.list hqy
    obtain ⟨its3, rv3, p3, _⟩ := I.list hqz
    obtain ⟨u, hu, ru⟩ := rv.get hx
    obtain ⟨u2, hu2, ru2⟩ := rv2.get hy
    obtain ⟨u3, hu3, ru3⟩ := rv3.get hzz
    have hzl : N + 5 < s.heap.objs.size := Heap.lt_size hz
    have hh := I.ok.hd hcm
    have ne1 : a ≠ N := by omega
    have ne2 : b ≠ N + 1 := by omega
    have ne3 : c ≠ N + 2 := by omega
    have D1 := Draws.list (prog := X.prog) (w := X.w) (A := X.A.in1) hh N a ne1 its.toArray
    have D2 := Draws.list (prog := X.prog) (w := X.w) (A := X.A.in1) hh (N + 1) b ne2 its2.toArray
    have D3 := Draws.list (prog := X.prog) (w := X.w) (A := X.A.in1) hh (N + 2) c ne3 its3.toArray
    have lt1 : i < its.toArray.size := by have := (List.getElem?_eq_some_iff.mp hu).1; simpa using this
    have lt2 : i < its2.toArray.size := by have := (List.getElem?_eq_some_iff.mp hu2).1; simpa using this
    have lt3 : i < its3.toArray.size := by have := (List.getElem?_eq_some_iff.mp hu3).1; simpa using this
    refine wpAny_pyNext_zipD3_item (sep3 ha hb hc) D1 D2 D3 hz hTI hTO ⟨h1, p.isList⟩ ⟨h2, p2.isList⟩ ⟨h3, p3.isList⟩ lt1 lt2 lt3 fun v1 v2 v3 h' tk e1 e2 e3 z' TO' h1' h2' h3' hT hsz hk => ?_
    have q1 : v1 = u := by have : its.toArray[i]? = some v1 := e1; simp [hu] at this; exact this.symm
    have q2 : v2 = u2 := by have : its2.toArray[i]? = some v2 := e2; simp [hu2] at this; exact this.symm
    have q3 : v3 = u3 := by have : its3.toArray[i]? = some v3 := e3; simp [hu3] at this; exact this.symm
    subst q1 q2 q3
    refine ⟨_, rfl, wpAny_letOwnedTupleGo_zip (s := { s with heap := h', toks := tk }) z' fun h'' z'' sb => ?_⟩
    have hT2 : h''.get? s.heap.objs.size = some { cls := .type "tuple", data := .seq #[v1, v2, v3] } := (sb.2 _ (Nat.ne_of_gt hzl)).trans hT
    have new : ObjOk X.prog X.w (upd H s.heap.objs.size (.tup [x, y, z])) h'' s.heap.objs.size (.tup [x, y, z]) :=
      ⟨by show 3 ≤ sizeLine; decide, [v1, v2, v3], .cons ru (.cons ru2 (.cons ru3 .nil)), ⟨_, hT2, rfl, _, rfl⟩⟩
    have I1 : Inv X pins σ (upd H s.heap.objs.size (.tup [x, y, z])) { s with heap := h'', toks := tk } :=
      I.turnedNew (t' := tk) (ch := fp3 N) (fun d o hd q => (sb.2 d (fun q' => hd (by simp [q']))).trans (hk d o (fun q' => hd (by simp [q'])) (fun q' => hd (by simp [q'])) (fun q' => hd (by simp [q'])) (fun q' => hd (by simp [q'])) (fun q' => hd (by simp [q'])) q)) hf (Nat.le_refl _) new
    refine ⟨.ref s.heap.objs.size, _, I1, rfl, ⟨_, x, y, z, rfl, I.hok.fresh (Nat.le_refl _), rfl, fun l hl => by rw [I.list_inj hl hqx]; exact hx, fun l hl => by rw [I.list_inj hl hqy]; exact hy, fun l hl => by rw [I.list_inj hl hqz]; exact hzz⟩, ⟨z'', ?_, ⟨v1, v2, v3, ?_⟩, ?_, ?_, ?_⟩, fun d hd => ?_⟩
    · exact (sb.2 _ (show (N + 3 : Nat) ≠ N + 5 by omega)).trans (hk _ _ (show (N + 3 : Nat) ≠ N + 5 by omega) (show (N + 3 : Nat) ≠ N + 4 by omega) (show (N + 3 : Nat) ≠ N by omega) (show (N + 3 : Nat) ≠ N + 1 by omega) (show (N + 3 : Nat) ≠ N + 2 by omega) hTI)
    · exact (sb.2 _ (show (N + 4 : Nat) ≠ N + 5 by omega)).trans TO'
    · exact h1'.1.at fun o q => (sb.2 _ (show (N : Nat) ≠ N + 5 by omega)).trans q
    · exact h2'.1.at fun o q => (sb.2 _ (show (N + 1 : Nat) ≠ N + 5 by omega)).trans q
    · exact h3'.1.at fun o q => (sb.2 _ (show (N + 2 : Nat) ≠ N + 5 by omega)).trans q
    · have hlt : d < s.heap.objs.size := by
        rcases fp3_mem hd with q | q | q | q | q | q
        · rw [q]; exact hzl
        · rw [q]; exact Heap.lt_size hTI
        · rw [q]; exact Heap.lt_size hTO
        · rw [q]; obtain ⟨_, e1, _⟩ := h1; exact Heap.lt_size e1
        · rw [q]; obtain ⟨_, e2, _⟩ := h2; exact Heap.lt_size e2
        · rw [q]; obtain ⟨_, e3, _⟩ := h3; exact Heap.lt_size e3
      rw [upd_ne (Nat.ne_of_lt hlt)]
      exact (hf d hd).1
  done := by
    intro X hP hw hK hcm i pins s σ H E I hf st hg
    subst hP hw hK
    obtain ⟨hz, hTI, ⟨x0, y0, z0, hTO⟩, h1, h2, h3⟩ := st
    obtain ⟨xs, ys, zs, hqx, hqy, hqz, le1, le2, le3, hend⟩ := hg
    obtain ⟨its, rv, p, _⟩ := I.list hqx
    obtain ⟨its2, rv2, p2, _⟩ := I.list hqy
    obtain ⟨its3, rv3, p3, _⟩ := I.list hqz
    have l1 := rv.length
    have l2 := rv2.length
    have l3 := rv3.length
    have hh := I.ok.hd hcm
    have ne1 : a ≠ N := by omega
    have ne2 : b ≠ N + 1 := by omega
    have ne3 : c ≠ N + 2 := by omega
    have D1 := Draws.list (prog := X.prog) (w := X.w) (A := X.A.in1) hh N a ne1 its.toArray
    have D2 := Draws.list (prog := X.prog) (w := X.w) (A := X.A.in1) hh (N + 1) b ne2 its2.toArray
    have D3 := Draws.list (prog := X.prog) (w := X.w) (A := X.A.in1) hh (N + 2) c ne3 its3.toArray
    exact wpAny_pyNext_zipD3_end (sep3 ha hb hc) D1 D2 D3 hz hTI hTO ⟨h1, p.isList⟩ ⟨h2, p2.isList⟩ ⟨h3, p3.isList⟩ (by simp; omega) (by simp; omega) (by simp; omega) (by simp; omega) fun h' tk hk => ⟨rfl, I.turnedL (t' := tk) (ch := fp3 N) (fun d o hd q =>
      hk d o (fun q' => hd (by simp [q'])) (fun q' => hd (by simp [q'])) (fun q' => hd (by simp [q'])) (fun q' => hd (by simp [q'])) (fun q' => hd (by simp [q'])) q) hf⟩
  self := fun A i s Q E st h => wpAny_pyIter_zip st.1 h
def iZip3 (K : PySem.W.Frag) (ta : TA) : TI := fun σ H R => ta σ H fun vs H1 => ∃ a b c xs ys zs, vs = [.ref a, .ref b, .ref c] ∧ SqL K H1 a xs ∧ SqL K H1 b ys ∧ SqL K H1 c zs ∧ R (Itz3 K a b c) H1
theorem pi_zip3 {X : Cx} {e e2 e3 : Expr} {ta : TA} {p pos tpos : Pos} {elts : List Expr} {kk : Nat} (hg : Gl X "zip") (hm : X.mg "zip" = none) (ha : PA X [e, e2, e3] ta)
    (hs : starEach [e, e2, e3] X.env = (false, eval e X.env) :: starEach [e2, e3] X.env := by rfl) (hpl : (backTo pos (starEach [e2, e3] X.env)).any (·.1) = false := by rfl) :
    PI X (.Tuple elts kk tpos) (.Call (.Name "zip" p) [e, e2, e3] [] pos) (iZip3 X.K ta) := by
  refine ⟨fun pins s σ H R I h => ?_⟩
  refine Call_ (ld_blt I hg hm PyProof.Rows.boot_zip (PyProof.Rows.callWith_type1 (thn (ha.run pos pins s σ H _ I h) fun us s1 ⟨vs, H1, I1, r1, q1⟩ => ?_) hs hpl))
  obtain ⟨a, b, c, xs, ys, zs, ex, hqx, hqy, hqz, q⟩ := q1
  subst ex
  cases r1 with
  | cons r rr =>
    cases rr with
    | cons r' rr =>
      cases rr with
      | cons r'' rr =>
        cases rr
        cases r
        cases r'
        cases r''
        obtain ⟨its, rv, p1, _⟩ := I1.list hqx
        obtain ⟨its2, rv2, p2, _⟩ := I1.list hqy
        obtain ⟨its3, rv3, p3, _⟩ := I1.list hqz
        have la : a < s1.heap.objs.size := p1.lt
        have lb : b < s1.heap.objs.size := p2.lt
        have lc : c < s1.heap.objs.size := p3.lt
        refine zip_begins3 (begins_list a its.toArray) (begins_list b its2.toArray) (begins_list c its3.toArray) p1.isList p2.isList p3.isList fun h' hz hTI hTO h1 h2 h3 hsz hk => wpAny_pyIter_zip hz ?_
        have I2 : Inv X pins σ H1 { s1 with heap := h' } := I1.kept (t' := s1.toks) hk
        refine ⟨s1.heap.objs.size + 5, fp3 s1.heap.objs.size, _, _, H1, rfl, I2, turn_zip3 la lb lc, ⟨hz, hTI, ⟨_, _, _, hTO⟩, ⟨_, h1, rfl, rfl⟩, ⟨_, h2, rfl, rfl⟩, ⟨_, h3, rfl, rfl⟩⟩, fun d hd => ?_, q⟩
        have hle : s1.heap.objs.size ≤ d := by
          rcases fp3_mem hd with z | z | z | z | z | z <;> rw [z]
          · exact Nat.le_add_right _ _
          · exact Nat.le_add_right _ _
          · exact Nat.le_add_right _ _
          · exact Nat.le_refl _
          · exact Nat.le_add_right _ _
          · exact Nat.le_add_right _ _
        exact I1.fpOk hle (I1.hok.fresh hle)
def zip3D (xs ys zs : List D) : List D := (xs.zip (ys.zip zs)).map fun p => D.tup [p.1, p.2.1, p.2.2]
@[simp] theorem zip3D_len (xs ys zs : List D) : (zip3D xs ys zs).length = min xs.length (min ys.length zs.length) := by simp [zip3D]
@[simp] theorem zip3D_get {xs ys zs : List D} {i : Nat} (h : i < (zip3D xs ys zs).length) : (zip3D xs ys zs)[i] = .tup [xs[i]'(by simp at h; omega), ys[i]'(by simp at h; omega), zs[i]'(by simp at h; omega)] := by simp [zip3D]
def zp3R (x y z : D) (L : Lh) : R3 It3 := match seqI x L, seqI y L, seqI z L with
  | some a, some b, some c => .val ⟨zip3D a.xs b.xs c.xs, fun L => a.chk L ∧ b.chk L ∧ c.chk L⟩ L
  | _, _, _ => .stuck
def iZp3 (f g h : E3) (Γ : G3) (L : Lh) : R3 It3 := (f Γ L).bind fun x L1 => (g Γ L1).bind fun y L2 => (h Γ L2).bind fun z L3 => zp3R x y z L3
theorem itok_zip3 {K : PySem.W.Frag} {ρ : List Addr} {H : Hp} {p q r : Addr} {a b c : It3}
    (hs : ∀ ρ' H' L', Ext ρ H ρ' H' → Ab K ρ' H' L' → a.chk L' → ∃ vs, SqL K H' p vs ∧ Reps K ρ' H' a.xs vs) (hs2 : ∀ ρ' H' L', Ext ρ H ρ' H' → Ab K ρ' H' L' → b.chk L' → ∃ vs, SqL K H' q vs ∧ Reps K ρ' H' b.xs vs)
    (hs3 : ∀ ρ' H' L', Ext ρ H ρ' H' → Ab K ρ' H' L' → c.chk L' → ∃ vs, SqL K H' r vs ∧ Reps K ρ' H' c.xs vs) :
    ItOk K ρ H (Itz3 K p q r) ⟨zip3D a.xs b.xs c.xs, fun L => a.chk L ∧ b.chk L ∧ c.chk L⟩ := by
  refine ⟨fun H' => ∃ vs us ws, SqL K H' p vs ∧ SqL K H' q us ∧ SqL K H' r ws ∧ vs.length = a.xs.length ∧ us.length = b.xs.length ∧ ws.length = c.xs.length,
    fun i H v H' => ∃ T x y z, v = .ref T ∧ H T = none ∧ H' = upd H T (.tup [x, y, z]) ∧ (∀ xs, SqL K H p xs → xs[i]? = some x) ∧ (∀ ys, SqL K H q ys → ys[i]? = some y) ∧ ∀ zs, SqL K H r zs → zs[i]? = some z,
    ⟨fun i H hi hG => ?_, fun H hG => ?_, fun i H x H' _ _ hy => hy⟩, fun ρ' H' L' e A cc => ?_, fun i ρ' H' L' x H'' hi e A cc hy => ?_⟩
  · obtain ⟨vs, us, ws, q1, q2, q3, l1, l2, l3⟩ := hG
    have hi' : i < a.xs.length ∧ i < b.xs.length ∧ i < c.xs.length := by simp at hi; omega
    exact ⟨vs, us, ws, vs[i]'(by omega), us[i]'(by omega), ws[i]'(by omega), q1, q2, q3, List.getElem?_eq_getElem _, List.getElem?_eq_getElem _, List.getElem?_eq_getElem _⟩
  · obtain ⟨vs, us, ws, q1, q2, q3, l1, l2, l3⟩ := hG
    refine ⟨vs, us, ws, q1, q2, q3, ?_, ?_, ?_, ?_⟩ <;> simp <;> omega
  · obtain ⟨vs, q1, r1⟩ := hs ρ' H' L' e A cc.1
    obtain ⟨us, q2, r2⟩ := hs2 ρ' H' L' e A cc.2.1
    obtain ⟨ws, q3, r3⟩ := hs3 ρ' H' L' e A cc.2.2
    exact ⟨vs, us, ws, q1, q2, q3, r1.length, r2.length, r3.length⟩
  · obtain ⟨vs, q1, r1⟩ := hs ρ' H' L' e A cc.1
    obtain ⟨us, q2, r2⟩ := hs2 ρ' H' L' e A cc.2.1
    obtain ⟨ws, q3, r3⟩ := hs3 ρ' H' L' e A cc.2.2
    obtain ⟨T, x', y', z', rfl, hT, rfl, hx, hy, hz⟩ := hy
    obtain ⟨d1, e1, p1⟩ := r1.getV (hx vs q1)
    obtain ⟨d2, e2, p2⟩ := r2.getV (hy us q2)
    obtain ⟨d3, e3, p3⟩ := r3.getV (hz ws q3)
    have ex : Ext ρ' H' ρ' (upd H' T (.tup [x', y', z'])) := ext_new hT
    refine ⟨.tup [d1, d2, d3], ?_, ex, ⟨T, _, rfl, SqT.of upd_same, _, _, rfl, Rep.mono ex d1 p1, _, _, rfl, Rep.mono ex d2 p2, _, _, rfl, Rep.mono ex d3 p3, rfl⟩, A.new hT⟩
    rw [List.getElem?_eq_getElem hi, zip3D_get]
    obtain ⟨_, e1⟩ := List.getElem?_eq_some_iff.mp e1
    obtain ⟨_, e2⟩ := List.getElem?_eq_some_iff.mp e2
    obtain ⟨_, e3⟩ := List.getElem?_eq_some_iff.mp e3
    rw [e1, e2, e3]
section
variable {X : Cx} {W : WX} {pos : Pos}
theorem i3_zip3 {e e2 e3 : Expr} {f g h : E3} {p tpos : Pos} {elts : List Expr} {kk : Nat} (hm : X.mg "zip" = none) (he : PE3 X W e f) (he2 : PE3 X W e2 g) (he3 : PE3 X W e3 h) (hg : Gl X "zip" := by rfl)
    (hs : starEach [e, e2, e3] X.env = (false, eval e X.env) :: starEach [e2, e3] X.env := by rfl) (hs2 : starEach [e2, e3] X.env = (false, eval e2 X.env) :: starEach [e3] X.env := by rfl) (hs3 : starEach [e3] X.env = (false, eval e3 X.env) :: starEach [] X.env := by rfl) (hpl : (backTo pos (starEach [e2, e3] X.env)).any (·.1) = false := by rfl) :
    PI3 X W (.Tuple elts kk tpos) (.Call (.Name "zip" p) [e, e2, e3] [] pos) (iZp3 f g h) := by
  obtain ⟨te, pe, q⟩ := he
  obtain ⟨te2, pe2, q2⟩ := he2
  obtain ⟨te3, pe3, q3⟩ := he3
  refine ⟨_, pi_zip3 hg hm (pa_cons pe (pa_cons pe2 (pa_cons pe3 pa_nil hs3) hs2) hs) hs hpl, fun σ H ρ Γ L R E A h => ?_⟩
  refine q σ H ρ Γ L _ E A (hbind (ihold_eq h) fun x L1 vx H1 ρ1 e1 r1 A1 h1 => ?_)
  refine q2 σ H1 ρ1 Γ L1 _ (E.mono e1) A1 (hbind h1 fun y L2 vy H2 ρ2 e2 r2 A2 h2 => ?_)
  refine q3 σ H2 ρ2 Γ L2 _ ((E.mono e1).mono e2) A2 (hbind h2 fun z L3 vz H3 ρ3 e3 r3 A3 h3 => ?_)
  unfold zp3R at h3
  split at h3
  · rename_i a b c ha hb hc
    obtain ⟨u1, rfl, ⟨vs, hv, hl⟩, k1⟩ := seqI_ok A3 ha (Rep.mono e3 x (Rep.mono e2 x r1))
    obtain ⟨u2, rfl, ⟨us, hu, hl2⟩, k2⟩ := seqI_ok A3 hb (Rep.mono e3 y r2)
    obtain ⟨u3, rfl, ⟨ws, hw, hl3⟩, k3⟩ := seqI_ok A3 hc r3
    exact ⟨u1, u2, u3, vs, us, ws, rfl, hv, hu, hw, h3.mk A3 (itok_zip3 k1 k2 k3)⟩
  · exact h3.elim
end
section
variable {Γ : G3} {L : Lh} {E : Str → Lh → Prop}
@[simp] def kZq3 (x y : D) (Q : It3 → Lh → Prop) (E : Str → Lh → Prop) (z : D) (L : Lh) : Prop := wpR (zp3R x y z L) Q E
@[simp] def kZq2 (h : E3) (Γ : G3) (x : D) (Q : It3 → Lh → Prop) (E : Str → Lh → Prop) (y : D) (L : Lh) : Prop := wpR (h Γ L) (kZq3 x y Q E) E
@[simp] def kZq1 (g h : E3) (Γ : G3) (Q : It3 → Lh → Prop) (E : Str → Lh → Prop) (x : D) (L : Lh) : Prop := wpR (g Γ L) (kZq2 h Γ x Q E) E
@[simp ↓] theorem wp_iZp3 {f g h : E3} {Q : It3 → Lh → Prop} : wpR (iZp3 f g h Γ L) Q E = wpR (f Γ L) (kZq1 g h Γ Q E) E := by
  unfold iZp3
  rw [wpR_bind']
  congr; funext x L1
  show wpR ((g Γ L1).bind _) Q E = _
  rw [wpR_bind']
  show _ = wpR (g Γ L1) (kZq2 h Γ x Q E) E
  congr; funext y L2
  rw [wpR_bind']; rfl
theorem zp3R_loc {n m k : Nat} {xs ys zs : List D} (h : L[n]? = some (.lst xs)) (h2 : L[m]? = some (.lst ys)) (h3 : L[k]? = some (.lst zs)) : zp3R (.loc n) (.loc m) (.loc k) L = .val ⟨zip3D xs ys zs, fun L' => L'[n]? = some (.lst xs) ∧ L'[m]? = some (.lst ys) ∧ L'[k]? = some (.lst zs)⟩ L := by
  unfold zp3R; rw [seqI_loc h, seqI_loc h2, seqI_loc h3]
end

def topS (i : Nat) : Stmt := PySem.Challenge.pw_evenerror_k51_sides_and_witnesses.main.body.getD i (.Pass ⟨0, 0, 0, 0⟩)
abbrev s_divisor : Stmt := topS 2
def df_divisor : He.DefD := ⟨("divisor", none), "divisor", "divisor", defArgs s_divisor, defBody s_divisor, defScope s_divisor, [], []⟩
abbrev s_fraction : Stmt := topS 3
def df_fraction : He.DefD := ⟨("fraction", none), "fraction", "fraction", defArgs s_fraction, defBody s_fraction, defScope s_fraction, [], []⟩
abbrev s_plus : Stmt := topS 4
def df_plus : He.DefD := ⟨("plus", none), "plus", "plus", defArgs s_plus, defBody s_plus, defScope s_plus, [], []⟩
abbrev s_times : Stmt := topS 5
def df_times : He.DefD := ⟨("times", none), "times", "times", defArgs s_times, defBody s_times, defScope s_times, [], []⟩
abbrev s_over : Stmt := topS 6
def df_over : He.DefD := ⟨("over", none), "over", "over", defArgs s_over, defBody s_over, defScope s_over, [], []⟩
abbrev s_sign : Stmt := topS 7
def df_sign : He.DefD := ⟨("sign", none), "sign", "sign", defArgs s_sign, defBody s_sign, defScope s_sign, [], []⟩
abbrev s_is_below : Stmt := topS 8
def df_is_below : He.DefD := ⟨("is_below", none), "is_below", "is_below", defArgs s_is_below, defBody s_is_below, defScope s_is_below, [], []⟩
abbrev s_bare : Stmt := topS 9
def df_bare : He.DefD := ⟨("bare", none), "bare", "bare", defArgs s_bare, defBody s_bare, defScope s_bare, [], []⟩
abbrev s_added : Stmt := topS 10
def df_added : He.DefD := ⟨("added", none), "added", "added", defArgs s_added, defBody s_added, defScope s_added, [], []⟩
abbrev s_worth : Stmt := topS 12
def df_worth : He.DefD := ⟨("worth", none), "worth", "worth", defArgs s_worth, defBody s_worth, defScope s_worth, [], []⟩
abbrev s_keeps_side : Stmt := topS 17
def df_keeps_side : He.DefD := ⟨("keeps_side", none), "keeps_side", "keeps_side", defArgs s_keeps_side, defBody s_keeps_side, defScope s_keeps_side, [], []⟩
abbrev s_keeps_sides : Stmt := topS 18
def df_keeps_sides : He.DefD := ⟨("keeps_sides", none), "keeps_sides", "keeps_sides", defArgs s_keeps_sides, defBody s_keeps_sides, defScope s_keeps_sides, [], []⟩
abbrev s_cost : Stmt := topS 19
def df_cost : He.DefD := ⟨("cost", none), "cost", "cost", defArgs s_cost, defBody s_cost, defScope s_cost, [], []⟩
abbrev s_is_witness : Stmt := topS 20
def df_is_witness : He.DefD := ⟨("is_witness", none), "is_witness", "is_witness", defArgs s_is_witness, defBody s_is_witness, defScope s_is_witness, [], []⟩
abbrev s_law_potS : Stmt := topS 22
def df_law_potS : He.DefD := ⟨("_law_pot", none), "_law_pot", "_law_pot", defArgs s_law_potS, defBody s_law_potS, defScope s_law_potS, [], []⟩
abbrev s_law_drawS : Stmt := topS 23
def df_law_drawS : He.DefD := ⟨("_law_draw", none), "_law_draw", "_law_draw", defArgs s_law_drawS, defBody s_law_drawS, defScope s_law_drawS, [], []⟩
abbrev s_law_fracS : Stmt := topS 24
def df_law_fracS : He.DefD := ⟨("_law_frac", none), "_law_frac", "_law_frac", defArgs s_law_fracS, defBody s_law_fracS, defScope s_law_fracS, [], []⟩
abbrev s_law_plusS : Stmt := topS 25
def df_law_plusS : He.DefD := ⟨("_law_plus", none), "_law_plus", "_law_plus", defArgs s_law_plusS, defBody s_law_plusS, defScope s_law_plusS, [], []⟩
abbrev s_law_lessS : Stmt := topS 26
def df_law_lessS : He.DefD := ⟨("_law_less", none), "_law_less", "_law_less", defArgs s_law_lessS, defBody s_law_lessS, defScope s_law_lessS, [], []⟩
abbrev s_law_timesS : Stmt := topS 27
def df_law_timesS : He.DefD := ⟨("_law_times", none), "_law_times", "_law_times", defArgs s_law_timesS, defBody s_law_timesS, defScope s_law_timesS, [], []⟩
abbrev s_law_overS : Stmt := topS 28
def df_law_overS : He.DefD := ⟨("_law_over", none), "_law_over", "_law_over", defArgs s_law_overS, defBody s_law_overS, defScope s_law_overS, [], []⟩
abbrev s_law_aheadS : Stmt := topS 29
def df_law_aheadS : He.DefD := ⟨("_law_ahead", none), "_law_ahead", "_law_ahead", defArgs s_law_aheadS, defBody s_law_aheadS, defScope s_law_aheadS, [], []⟩
abbrev s_law_worthS : Stmt := topS 30
def df_law_worthS : He.DefD := ⟨("_law_worth", none), "_law_worth", "_law_worth", defArgs s_law_worthS, defBody s_law_worthS, defScope s_law_worthS, [], []⟩
abbrev s_law_xsS : Stmt := topS 31
def df_law_xsS : He.DefD := ⟨("_law_xs", none), "_law_xs", "_law_xs", defArgs s_law_xsS, defBody s_law_xsS, defScope s_law_xsS, [], []⟩
abbrev s_law_degreeS : Stmt := topS 32
def df_law_degreeS : He.DefD := ⟨("_law_degree", none), "_law_degree", "_law_degree", defArgs s_law_degreeS, defBody s_law_degreeS, defScope s_law_degreeS, [], []⟩
abbrev s_law_weightS : Stmt := topS 33
def df_law_weightS : He.DefD := ⟨("_law_weight", none), "_law_weight", "_law_weight", defArgs s_law_weightS, defBody s_law_weightS, defScope s_law_weightS, [], []⟩
abbrev s_law_polyS : Stmt := topS 34
def df_law_polyS : He.DefD := ⟨("_law_poly", none), "_law_poly", "_law_poly", defArgs s_law_polyS, defBody s_law_polyS, defScope s_law_polyS, [], []⟩
abbrev s_law_is_witnessS : Stmt := topS 35
def df_law_is_witnessS : He.DefD := ⟨("_law_is_witness", none), "_law_is_witness", "_law_is_witness", defArgs s_law_is_witnessS, defBody s_law_is_witnessS, defScope s_law_is_witnessS, [], []⟩
abbrev s_law_costS : Stmt := topS 36
def df_law_costS : He.DefD := ⟨("_law_cost", none), "_law_cost", "_law_cost", defArgs s_law_costS, defBody s_law_costS, defScope s_law_costS, [], []⟩
abbrev s_law_keepsS : Stmt := topS 37
def df_law_keepsS : He.DefD := ⟨("_law_keeps", none), "_law_keeps", "_law_keeps", defArgs s_law_keepsS, defBody s_law_keepsS, defScope s_law_keepsS, [], []⟩
abbrev s_law_leversS : Stmt := topS 38
def df_law_leversS : He.DefD := ⟨("_law_levers", none), "_law_levers", "_law_levers", defArgs s_law_leversS, defBody s_law_leversS, defScope s_law_leversS, [], []⟩
abbrev s_law_numberS : Stmt := topS 39
def df_law_numberS : He.DefD := ⟨("_law_number", none), "_law_number", "_law_number", defArgs s_law_numberS, defBody s_law_numberS, defScope s_law_numberS, [], []⟩
abbrev s_law_spotS : Stmt := topS 40
def df_law_spotS : He.DefD := ⟨("_law_spot", none), "_law_spot", "_law_spot", defArgs s_law_spotS, defBody s_law_spotS, defScope s_law_spotS, [], []⟩
abbrev s_law_addedS : Stmt := topS 41
def df_law_addedS : He.DefD := ⟨("_law_added", none), "_law_added", "_law_added", defArgs s_law_addedS, defBody s_law_addedS, defScope s_law_addedS, [], []⟩
abbrev s_law_shortS : Stmt := topS 43
def df_law_shortS : He.DefD := ⟨("_law_short", none), "_law_short", "_law_short", defArgs s_law_shortS, defBody s_law_shortS, defScope s_law_shortS, [], []⟩
abbrev s_law_witnessS : Stmt := topS 42
def df_law_witnessS : He.DefD := ⟨("_law_witness", none), "_law_witness", "_law_witness", defArgs s_law_witnessS, defBody s_law_witnessS, defScope s_law_witnessS, [], []⟩
abbrev s_law_sameS : Stmt := topS 44
def df_law_sameS : He.DefD := ⟨("_law_same", none), "_law_same", "_law_same", defArgs s_law_sameS, defBody s_law_sameS, defScope s_law_sameS, [], []⟩
abbrev s_law : Stmt := topS 45
def df_law : He.DefD := ⟨("law", none), "law", "law", defArgs s_law, defBody s_law, defScope s_law, [], []⟩
def exD (K : PySem.W.Frag) : Bool := He.tupB K "NOUGHT_fractions" ([.int 0, .int 1].map dvD) && He.tupB K "NOUGHT_sides" ([.int 0, .int 1].map dvD)
theorem ex_NOUGHT_fractions {K : PySem.W.Frag} (h : exD K = true) : He.tupB K "NOUGHT_fractions" ([.int 0, .int 1].map dvD) = true := by
  unfold exD at h
  simp only [Bool.and_eq_true] at h
  exact h.1
theorem ex_NOUGHT_sides {K : PySem.W.Frag} (h : exD K = true) : He.tupB K "NOUGHT_sides" ([.int 0, .int 1].map dvD) = true := by
  unfold exD at h
  simp only [Bool.and_eq_true] at h
  exact h.2
def fnsD : List He.DefD := [df_divisor, df_fraction, df_plus, df_times, df_over, df_sign, df_is_below, df_bare, df_added, df_worth, df_keeps_side, df_keeps_sides, df_cost, df_is_witness, df_law_potS, df_law_drawS, df_law_fracS, df_law_plusS, df_law_lessS, df_law_timesS, df_law_overS, df_law_aheadS, df_law_worthS, df_law_xsS, df_law_degreeS, df_law_weightS, df_law_polyS, df_law_is_witnessS, df_law_costS, df_law_keepsS, df_law_leversS, df_law_numberS, df_law_spotS, df_law_addedS, df_law_shortS, df_law_witnessS, df_law_sameS, df_law]
def fasD : List He.Fa := [.glo "divisor", .glo "fraction", .glo "plus", .glo "times", .glo "over", .glo "sign", .glo "is_below", .glo "bare", .glo "added", .glo "worth", .glo "keeps_side", .glo "keeps_sides", .glo "cost", .glo "is_witness", .glo "_law_pot", .glo "_law_draw", .glo "_law_frac", .glo "_law_plus", .glo "_law_less", .glo "_law_times", .glo "_law_over", .glo "_law_ahead", .glo "_law_worth", .glo "_law_xs", .glo "_law_degree", .glo "_law_weight", .glo "_law_poly", .glo "_law_is_witness", .glo "_law_cost", .glo "_law_keeps", .glo "_law_levers", .glo "_law_number", .glo "_law_spot", .glo "_law_added", .glo "_law_short", .glo "_law_witness", .glo "_law_same", .glo "law", .int "NOT_GREATER" (-1), .int "NOT_LESS" 1, .glo "NOUGHT_fractions", .glo "NOUGHT_sides"] ++ freeFa
abbrev RowR : PySem.W.OpenRow := PySem.W.OpenLaw.row PySem.Challenge.rw_evenerror_k51_sides_and_witnesses
abbrev hkD : PySem.W.Hook := He.hookX 4 fasD fnsD [] [] exD
def obD (s : PySem.W.SharedT) : He.AlX := He.obsX 4 fasD fnsD [] [] exD (HandSHeadRun.getT s)
theorem obD_eq (s : PySem.W.SharedT) : obD s = hkD.obs s.abs := He.obsX_eq (HandSHeadRun.getT_eq s)
def looseD : List Str := (["NOUGHT_fractions", "divisor", "fraction", "plus", "times", "over", "sign", "is_below", "bare", "added", "worth", "NOUGHT_sides", "NOT_LESS", "NOT_GREATER", "keeps_side", "keeps_sides", "cost", "is_witness", "_law_pot", "_law_draw", "_law_frac", "_law_plus", "_law_less", "_law_times", "_law_over", "_law_ahead", "_law_worth", "_law_xs", "_law_degree", "_law_weight"] : List Str) ++ (["_law_poly", "_law_is_witness", "_law_cost", "_law_keeps", "_law_levers", "_law_number", "_law_spot", "_law_added", "_law_witness", "_law_short", "_law_same"] : List Str)
theorem runD (w : World) : HandSHeadRun.RunEq RowR (PySem.W.view RowR.prog [45]) hkD obD 8000 looseD w := by
  intro os
  kernel_rfl

def k_NOUGHT : D := .tup [.int 0, .int 1]
def k_ONE : D := .tup [.int 1, .int 1]
noncomputable def d_divisor : S3 :=
    (sSeq (sPar 2 3 (eCall fAbs (aCons (eVar 0) aNil)) (eCall fAbs (aCons (eVar 1) aNil)))
    (sSeq (sWhile (tE (eOp fGt (eVar 3) (eC (.int 0)))) (sPar 2 3 (eVar 3) (eOp fMod (eVar 2) (eVar 3))))
    (sRet (eVar 2))))
noncomputable def fn_divisor : Fn3 := run3 2 4 d_divisor
noncomputable def d_fraction : S3 :=
    (sSeq (sSet 2 (eCall fn_divisor (aCons (eVar 0) (aCons (eVar 1) aNil))))
    (sSeq (sIf (tE (eOp fLt (eVar 1) (eC (.int 0)))) (sSet 2 (eUn fNeg (eVar 2))) sNext)
    (sRet (eTup (aCons (eOp fFdiv (eVar 0) (eVar 2)) (aCons (eOp fFdiv (eVar 1) (eVar 2)) aNil))))))
noncomputable def fn_fraction : Fn3 := run3 2 3 d_fraction
noncomputable def d_plus : S3 :=
    (sRet (eCall fn_fraction (aCons (eOp fAdd (eOp fMul (eOp fIx (eVar 0) (eC (.int 0))) (eOp fIx (eVar 1) (eC (.int 1)))) (eOp fMul (eOp fIx (eVar 1) (eC (.int 0))) (eOp fIx (eVar 0) (eC (.int 1))))) (aCons (eOp fMul (eOp fIx (eVar 0) (eC (.int 1))) (eOp fIx (eVar 1) (eC (.int 1)))) aNil))))
noncomputable def fn_plus : Fn3 := run3 2 2 d_plus
noncomputable def d_less : S3 :=
    (sRet (eCall fn_fraction (aCons (eOp fSub (eOp fMul (eOp fIx (eVar 0) (eC (.int 0))) (eOp fIx (eVar 1) (eC (.int 1)))) (eOp fMul (eOp fIx (eVar 1) (eC (.int 0))) (eOp fIx (eVar 0) (eC (.int 1))))) (aCons (eOp fMul (eOp fIx (eVar 0) (eC (.int 1))) (eOp fIx (eVar 1) (eC (.int 1)))) aNil))))
noncomputable def fn_less : Fn3 := run3 2 2 d_less
noncomputable def d_times : S3 :=
    (sRet (eCall fn_fraction (aCons (eOp fMul (eOp fIx (eVar 0) (eC (.int 0))) (eOp fIx (eVar 1) (eC (.int 0)))) (aCons (eOp fMul (eOp fIx (eVar 0) (eC (.int 1))) (eOp fIx (eVar 1) (eC (.int 1)))) aNil))))
noncomputable def fn_times : Fn3 := run3 2 2 d_times
noncomputable def d_over : S3 :=
    (sRet (eCall fn_fraction (aCons (eOp fMul (eOp fIx (eVar 0) (eC (.int 0))) (eOp fIx (eVar 1) (eC (.int 1)))) (aCons (eOp fMul (eOp fIx (eVar 0) (eC (.int 1))) (eOp fIx (eVar 1) (eC (.int 0)))) aNil))))
noncomputable def fn_over : Fn3 := run3 2 2 d_over
noncomputable def d_sign : S3 :=
    (sRet (eOp fSub (eCall fIntOf (aCons (eOp fGt (eOp fIx (eVar 0) (eC (.int 0))) (eC (.int 0))) aNil)) (eCall fIntOf (aCons (eOp fLt (eOp fIx (eVar 0) (eC (.int 0))) (eC (.int 0))) aNil))))
noncomputable def fn_sign : Fn3 := run3 1 1 d_sign
noncomputable def d_is_below : S3 :=
    (sRet (eOp fLt (eOp fMul (eOp fIx (eVar 0) (eC (.int 0))) (eOp fIx (eVar 1) (eC (.int 1)))) (eOp fMul (eOp fIx (eVar 1) (eC (.int 0))) (eOp fIx (eVar 0) (eC (.int 1))))))
noncomputable def fn_is_below : Fn3 := run3 2 2 d_is_below
noncomputable def d_bare : S3 :=
    (sRet (eTup (aCons (eCall fAbs (aCons (eOp fIx (eVar 0) (eC (.int 0))) aNil)) (aCons (eOp fIx (eVar 0) (eC (.int 1))) aNil))))
noncomputable def fn_bare : Fn3 := run3 1 1 d_bare
noncomputable def d_turned : S3 :=
    (sRet (eTup (aCons (eUn fNeg (eOp fIx (eVar 0) (eC (.int 0)))) (aCons (eOp fIx (eVar 0) (eC (.int 1))) aNil))))
noncomputable def fn_turned : Fn3 := run3 1 1 d_turned
noncomputable def d_added : S3 :=
    (sSeq (sSet 1 (eC k_NOUGHT))
    (sSeq (sFor (iLT (eVar 0)) (gN 2) (sSet 1 (eCall fn_plus (aCons (eVar 1) (aCons (eVar 2) aNil)))))
    (sRet (eVar 1))))
noncomputable def fn_added : Fn3 := run3 1 3 d_added
noncomputable def d_greatest : S3 :=
    (sSeq (sSet 1 (eC k_NOUGHT))
    (sSeq (sFor (iLT (eVar 0)) (gN 2) (sIf (tE (eCall fn_is_below (aCons (eVar 1) (aCons (eVar 2) aNil)))) (sSet 1 (eVar 2)) sNext))
    (sRet (eVar 1))))
noncomputable def fn_greatest : Fn3 := run3 1 3 d_greatest
noncomputable def d_lean : S3 :=
    (sSeq (sSet 1 (eCall fLen (aCons (eVar 0) aNil)))
    (sSeq (sWhile (tAnd3 (tE (eOp fGt (eVar 1) (eC (.int 0)))) (tE (eOp fEq (eOp fIx (eVar 0) (eOp fSub (eVar 1) (eC (.int 1)))) (eC k_NOUGHT)))) (sSet 1 (eOp fSub (eVar 1) (eC (.int 1)))))
    (sRet (eCall fTuple (aCons (eSl (eVar 0) oNo (oSo (eVar 1))) aNil)))))
noncomputable def fn_lean : Fn3 := run3 1 2 d_lean
noncomputable def d_worth : S3 :=
    (sSeq (sSet 2 (eC k_NOUGHT))
    (sSeq (sFor (iRev (eVar 0)) (gN 3) (sSet 2 (eCall fn_plus (aCons (eCall fn_times (aCons (eVar 2) (aCons (eVar 1) aNil))) (aCons (eVar 3) aNil)))))
    (sRet (eVar 2))))
noncomputable def fn_worth : Fn3 := run3 2 4 d_worth
noncomputable def d_part_at : S3 :=
    (sSeq (sIf (tE (eOp fLt (eVar 1) (eCall fLen (aCons (eVar 0) aNil)))) (sRet (eOp fIx (eVar 0) (eVar 1))) sNext)
    (sRet (eC k_NOUGHT)))
noncomputable def fn_part_at : Fn3 := run3 2 2 d_part_at
noncomputable def d_sum_of : S3 :=
    (sSeq (sSet 2 (eCall fMax2 (aCons (eCall fLen (aCons (eVar 0) aNil)) (aCons (eCall fLen (aCons (eVar 1) aNil)) aNil))))
    (sRet (eCall fn_lean (aCons (eLc (iR1 (aCons (eVar 2) aNil)) (gN 3) tTrue (eCall fn_plus (aCons (eCall fn_part_at (aCons (eVar 0) (aCons (eVar 3) aNil))) (aCons (eCall fn_part_at (aCons (eVar 1) (aCons (eVar 3) aNil))) aNil))) [3]) aNil))))
noncomputable def fn_sum_of : Fn3 := run3 2 4 d_sum_of
noncomputable def d_times_all : S3 :=
    (sRet (eCall fn_lean (aCons (eLc (iLT (eVar 0)) (gN 2) tTrue (eCall fn_times (aCons (eVar 2) (aCons (eVar 1) aNil))) [2]) aNil)))
noncomputable def fn_times_all : Fn3 := run3 2 3 d_times_all
noncomputable def d_product : S3 :=
    (sSeq (sSet 2 (eOp fMul (eLst (aCons (eC k_NOUGHT) aNil)) (eOp fAdd (eCall fLen (aCons (eVar 0) aNil)) (eCall fLen (aCons (eVar 1) aNil)))))
    (sSeq (sFor (iEnB (eVar 0)) (gT 2 (gCons3 (gN 3) (gCons3 (gN 4) gNil3))) (sFor (iEnB (eVar 1)) (gT 2 (gCons3 (gN 5) (gCons3 (gN 6) gNil3))) (sAsg (eCall fn_plus (aCons (eOp fIx (eVar 2) (eOp fAdd (eVar 3) (eVar 5))) (aCons (eCall fn_times (aCons (eVar 4) (aCons (eVar 6) aNil))) aNil))) (gS (eVar 2) (eOp fAdd (eVar 3) (eVar 5))))))
    (sRet (eCall fn_lean (aCons (eVar 2) aNil)))))
noncomputable def fn_product : Fn3 := run3 2 7 d_product
noncomputable def d_slope : S3 :=
    (sRet (eCall fn_lean (aCons (eSl (eLc (iEnB (eVar 0)) (gT 2 (gCons3 (gN 1) (gCons3 (gN 2) gNil3))) tTrue (eCall fn_times (aCons (eVar 2) (aCons (eTup (aCons (eVar 1) (aCons (eC (.int 1)) aNil))) aNil))) [1, 2]) (oSo (eC (.int 1))) oNo) aNil)))
noncomputable def fn_slope : Fn3 := run3 1 3 d_slope
noncomputable def d_without_root : S3 :=
    (sRet (eTup (aCons (eCall fn_turned (aCons (eVar 0) aNil)) (aCons (eC k_ONE) aNil))))
noncomputable def fn_without_root : Fn3 := run3 1 1 d_without_root
noncomputable def d_through : S3 :=
    (sSeq (sSet 1 (eTup aNil))
    (sSeq (sSet 2 (eTup (aCons (eC k_ONE) aNil)))
    (sSeq (sFor (iLT (eVar 0)) (gT 2 (gCons3 (gN 3) (gCons3 (gN 4) gNil3))) (sSeq (sSet 5 (eCall fn_worth (aCons (eVar 2) (aCons (eVar 3) aNil))))
    (sSeq (sIf (tE (eOp fEq (eVar 5) (eC k_NOUGHT))) (sRaise "Twice") sNext)
    (sSeq (sSet 6 (eCall fn_over (aCons (eCall fn_less (aCons (eVar 4) (aCons (eCall fn_worth (aCons (eVar 1) (aCons (eVar 3) aNil))) aNil))) (aCons (eVar 5) aNil))))
    (sSeq (sSet 1 (eCall fn_sum_of (aCons (eVar 1) (aCons (eCall fn_times_all (aCons (eVar 2) (aCons (eVar 6) aNil))) aNil))))
    (sSet 2 (eCall fn_product (aCons (eVar 2) (aCons (eCall fn_without_root (aCons (eVar 3) aNil)) aNil)))))))))
    (sRet (eVar 1)))))
noncomputable def fn_through : Fn3 := run3 1 7 d_through
noncomputable def d_in_place : S3 :=
    (sSeq (sSet 3 (eTup (aCons (eCall fn_over (aCons (eCall fn_turned (aCons (eVar 2) aNil)) (aCons (eVar 1) aNil))) (aCons (eCall fn_over (aCons (eC k_ONE) (aCons (eVar 1) aNil))) aNil))))
    (sSeq (sSet 4 (eTup aNil))
    (sSeq (sFor (iRev (eVar 0)) (gN 5) (sSet 4 (eCall fn_sum_of (aCons (eCall fn_product (aCons (eVar 4) (aCons (eCall fn_lean (aCons (eVar 3) aNil)) aNil))) (aCons (eCall fn_lean (aCons (eLst (aCons (eVar 5) aNil)) aNil)) aNil)))))
    (sRet (eVar 4)))))
noncomputable def fn_in_place : Fn3 := run3 3 6 d_in_place
noncomputable def d_table_of : S3 :=
    (sSeq (sSet 1 (eLst aNil))
    (sSeq (sFor (iLT (eVar 0)) (gN 2) (sSeq (sSet 3 (eCall fLen (aCons (eLc (iLT (eVar 1)) (gN 4) (tE (eCall fn_is_below (aCons (eOp fIx (eVar 4) (eC (.int 0))) (aCons (eOp fIx (eVar 2) (eC (.int 0))) aNil)))) (eVar 4) [4]) aNil)))
    (sSeq (sIf (tAnd3 (tE (eOp fLt (eVar 3) (eCall fLen (aCons (eVar 1) aNil)))) (tE (eOp fEq (eOp fIx (eOp fIx (eVar 1) (eVar 3)) (eC (.int 0))) (eOp fIx (eVar 2) (eC (.int 0)))))) (sRaise "Twice") sNext)
    (sDrop (eMt "list" mInsert (eVar 1) (aCons (eVar 3) (aCons (eVar 2) aNil)))))))
    (sSeq (sFor (iLT (eVar 1)) (gN 2) (sIf (tE (eOp fLt (eCall fn_sign (aCons (eOp fIx (eVar 2) (eC (.int 2))) aNil)) (eC (.int 1)))) (sRaise "NoWeight") sNext))
    (sRet (eVar 1)))))
noncomputable def fn_table_of : Fn3 := run3 1 5 d_table_of
noncomputable def d_error_at : S3 :=
    (sRet (eCall fn_times (aCons (eOp fIx (eVar 0) (eC (.int 2))) (aCons (eCall fn_less (aCons (eOp fIx (eVar 0) (eC (.int 1))) (aCons (eCall fn_worth (aCons (eVar 1) (aCons (eOp fIx (eVar 0) (eC (.int 0))) aNil))) aNil))) aNil))))
noncomputable def fn_error_at : Fn3 := run3 2 2 d_error_at
noncomputable def d_errors_of : S3 :=
    (sRet (eLc (iLT (eVar 0)) (gN 2) tTrue (eCall fn_error_at (aCons (eVar 2) (aCons (eVar 1) aNil))) [2]))
noncomputable def fn_errors_of : Fn3 := run3 2 3 d_errors_of
noncomputable def d_size_of : S3 :=
    (sRet (eCall fn_greatest (aCons (eLc (iLT (eCall fn_errors_of (aCons (eVar 0) (aCons (eVar 1) aNil)))) (gN 2) tTrue (eCall fn_bare (aCons (eVar 2) aNil)) [2]) aNil)))
noncomputable def fn_size_of : Fn3 := run3 2 3 d_size_of
theorem trunc_nil {b : Bool} {L : Lh} : trunc [] (.bl b) L = .val (.bl b) [] := by unfold trunc; rw [if_pos (by simp), if_pos (show closed _ _ = true from rfl)]
/-- a fraction -/
def fr (q : Rat) : D := .tup [.int q.num, .int q.den]
@[simp] theorem gT_fr {gs : Tgs3} {q : Rat} {Γ : G3} {L : Lh} : gT 2 gs (fr q) Γ L = gs [.int q.num, .int q.den] Γ L := rfl
@[simp] theorem dat_fr {k : Nat} {L : Lh} {q : Rat} : dat (k + 2) L (fr q) = some (.tuple [.int q.num, .int q.den]) := rfl
@[simp] theorem shaped_t2 (a b : Int) : SeqAt.shaped (.tuple [.int a, .int b]) = true := (rfl)
@[simp] theorem shaped_fr {q : Rat} : SeqAt.shaped (.tuple [.int q.num, .int q.den]) = true := (rfl)
@[simp] theorem closed_fr (n : Nat) (q : Rat) : closed n (fr q) = true := (rfl)
@[simp] theorem closed_bl (n : Nat) (b : Bool) : closed n (.bl b) = true := (rfl)
@[simp] theorem closed_int (n : Nat) (b : Int) : closed n (.int b) = true := (rfl)
@[simp] theorem closed_non (n : Nat) : closed n .non = true := (rfl)
@[simp] theorem closed_str (n : Nat) (b : Str) : closed n (.str b) = true := (rfl)
@[simp] theorem closed_tup (n : Nat) (xs : List D) : closed n (.tup xs) = closeds n xs := (rfl)
@[simp] theorem closeds_nil (n : Nat) : closeds n [] = true := (rfl)
@[simp] theorem closeds_cons (n : Nat) (x : D) (xs : List D) : closeds n (x :: xs) = (closed n x && closeds n xs) := (rfl)
theorem frac_of {a b N : Int} {Dn : Nat} (hb : b ≠ 0) (hD : 0 < Dn) (hc : N.natAbs.Coprime Dn) (h : N * b = a * Dn) : fr (Rat.divInt a b) = .tup [.int N, .int Dn] := by
  have e : Rat.divInt a b = ⟨N, Dn, by omega, hc⟩ := by
    rw [Rat.mk_eq_divInt]
    rw [Rat.divInt_eq_divInt_iff hb (by omega)]
    exact h.symm
  rw [e]; rfl
theorem gcd_step {x y : Int} (hx : 0 ≤ x) (h : 0 < y) : Int.gcd x y = Int.gcd y (x % y) := by
  obtain ⟨a, rfl⟩ := Int.eq_ofNat_of_zero_le hx
  obtain ⟨b, rfl⟩ := Int.eq_ofNat_of_zero_le (Int.le_of_lt h)
  show Nat.gcd a b = Nat.gcd b (a % b)
  rw [Nat.gcd_comm a b, Nat.gcd_rec b a, Nat.gcd_comm]
/-- gcd by remainders: x at i, y at j -/
theorem while_gcd (Γf : Int → Int → G3) (c : T3) (b : S3) (L : Lh) (hc : ∀ x y, c (Γf x y) L = .val (decide (0 < y)) L) (hb : ∀ x y, 0 ≤ x → 0 < y → b (Γf x y) L = .nx (Γf y (x % y)) L) (x y : Int) (hx : 0 ≤ x) (hy : 0 ≤ y) :
    sWhile c b (Γf x y) L = .nx (Γf (Int.gcd x y) 0) L := by
  refine sWhile_inv (fun m Γ L' => L' = L ∧ ∃ x' y', Γ = Γf x' y' ∧ 0 ≤ x' ∧ 0 ≤ y' ∧ m = y'.toNat ∧ Int.gcd x' y' = Int.gcd x y) (fun o => o = .nx (Γf (Int.gcd x y) 0) L) (by simp) ?_ y.toNat (Γf x y) L ⟨rfl, x, y, rfl, hx, hy, rfl, rfl⟩
  rintro m Γ L' ⟨rfl, x', y', rfl, hx', hy', rfl, hg⟩
  by_cases h0 : 0 < y'
  · have b1 := Int.emod_nonneg x' (show y' ≠ 0 by omega)
    have b2 := Int.emod_lt_of_pos x' h0
    exact .inr ⟨L', by rw [hc, decide_eq_true h0], .inl ⟨_, _, _, .inl (hb x' y' hx' h0), by omega, rfl, y', x' % y', rfl, hy', b1, rfl, by rw [← gcd_step hx' h0, hg]⟩⟩
  · have e : y' = 0 := by omega
    subst e
    refine .inl ⟨L', by rw [hc]; rfl, ?_⟩
    rw [← hg]
    have : (Int.gcd x' 0 : Int) = x' := by simp; omega
    rw [this]
/-! ## functions of fractions -/
/-- less than n bits -/
def Bd (n : Nat) (a : Int) : Prop := a.natAbs < 2 ^ n
theorem cmul_of {n m : Nat} {a b : Int} (ha : Bd n a) (hb : Bd m b) (h : n + m ≤ 100000000) : CMulX a b := mulx_ok ha hb (Nat.le_trans h (by decide))
theorem Bd.mono {n m : Nat} {a : Int} (h : Bd n a) (hk : n ≤ m) : Bd m a := Nat.lt_of_lt_of_le h (Nat.pow_le_pow_right (by omega) hk)
theorem nopy {a b : Int} {n : Nat} (hb : Bd n b) (hn : n ≤ 9000) (h0 : 0 < n) : Builtin.divisionGoesByPylong a b = false := by
  have := PySem.Flt.log2_lt_of h0 hb
  unfold Builtin.divisionGoesByPylong
  simp only [Bool.and_eq_false_iff, decide_eq_false_iff_not]
  left
  split <;> omega
theorem abs_if (a : Int) : (if a < 0 then -a else a) = (a.natAbs : Int) := by omega
theorem fn_divisor_eq (a b : Int) (L : Lh) : fn_divisor [.int a, .int b] L = .val (.int (Int.gcd a b)) L := by
  have hw := while_gcd (fun x y => [some (.int a), some (.int b), some (.int x), some (.int y)]) (tE (eOp fGt (eVar 3) (eC (.int 0)))) (sPar 2 3 (eVar 3) (eOp fMod (eVar 2) (eVar 3))) L
    (by intro x y; simp) (by intro x y hx hy; simp [show y ≠ 0 by omega, Int.fmod_eq_emod_of_nonneg x (show 0 ≤ y by omega)]) (a.natAbs : Int) (b.natAbs : Int) (by omega) (by omega)
  have hg : Int.gcd (a.natAbs : Int) (b.natAbs : Int) = Int.gcd a b := by simp [Int.gcd]
  rw [hg] at hw
  refine run_ret (Γ0 := [some (.int a), some (.int b), none, none]) (d := .int (Int.gcd a b)) (L' := L) rfl rfl ?_ (trunc_same rfl)
  unfold d_divisor
  rw [seq_nx (Γ1 := [some (.int a), some (.int b), some (.int a.natAbs), some (.int b.natAbs)]) (L1 := L) (by simp [abs_if]), seq_nx hw]
  simp
theorem gcd_pos {a b : Int} (hb : b ≠ 0) : 0 < Int.gcd a b := by
  rcases Nat.eq_zero_or_pos (Int.gcd a b) with h | h
  · rw [Int.gcd_eq_zero_iff] at h; exact absurd h.2 hb
  · exact h
/-- what a and b over their divisor are -/
theorem frac_gcd (a b : Int) (hb : b ≠ 0) (s : Int) (hs : s = if b < 0 then -(Int.gcd a b : Int) else (Int.gcd a b : Int)) : D.tup [.int (a.fdiv s), .int (b.fdiv s)] = fr (Rat.divInt a b) := by
  have hg := gcd_pos (a := a) hb
  obtain ⟨a', ha⟩ := Int.gcd_dvd_left (a := a) (b := b)
  obtain ⟨b', hb'⟩ := Int.gcd_dvd_right (a := a) (b := b)
  have cop : Int.gcd a' b' = 1 := by
    have h1 : Int.gcd a b = Int.gcd a b * Int.gcd a' b' := by
      have h2 : Int.gcd ((Int.gcd a b : Int) * a') ((Int.gcd a b : Int) * b') = (Int.gcd a b : Int).natAbs * Int.gcd a' b' := Int.gcd_mul_left _ _ _
      rw [← ha, ← hb'] at h2
      simpa using h2
    have := Nat.eq_of_mul_eq_mul_left hg (show Int.gcd a b * Int.gcd a' b' = Int.gcd a b * 1 by omega)
    exact this
  generalize hgv : Int.gcd a b = g at *
  have hg0 : (g : Int) ≠ 0 := by omega
  by_cases hneg : b < 0
  · rw [if_pos hneg] at hs
    subst hs
    have e1 : a.fdiv (-(g : Int)) = -a' := by
      rw [ha, show (g : Int) * a' = (-(g : Int)) * (-a') by grind, Int.mul_fdiv_cancel_left _ (by omega)]
    have e2 : b.fdiv (-(g : Int)) = -b' := by
      rw [hb', show (g : Int) * b' = (-(g : Int)) * (-b') by grind, Int.mul_fdiv_cancel_left _ (by omega)]
    have hb2 : b' < 0 := by
      rcases Int.lt_or_le b' 0 with h | h
      · exact h
      · have := Int.mul_nonneg (show (0 : Int) ≤ g by omega) h
        omega
    rw [e1, e2, frac_of (N := -a') (Dn := (-b').toNat) hb (by omega) ?_ ?_]
    · rw [show (((-b').toNat : Nat) : Int) = -b' by omega]
    · show Nat.gcd _ _ = 1
      rw [show (-b').toNat = b'.natAbs by omega, show (-a').natAbs = a'.natAbs by omega]; exact cop
    · rw [show (((-b').toNat : Nat) : Int) = -b' by omega]; grind
  · rw [if_neg hneg] at hs
    subst hs
    have e1 : a.fdiv (g : Int) = a' := by rw [ha, Int.mul_fdiv_cancel_left _ hg0]
    have e2 : b.fdiv (g : Int) = b' := by rw [hb', Int.mul_fdiv_cancel_left _ hg0]
    have hb2 : 0 < b' := by
      rcases Int.lt_or_le 0 b' with h | h
      · exact h
      · have := Int.mul_nonneg (show (0 : Int) ≤ g by omega) (show 0 ≤ -b' by omega)
        rw [Int.mul_neg] at this
        omega
    rw [e1, e2, frac_of (N := a') (Dn := b'.toNat) hb (by omega) ?_ ?_]
    · rw [show ((b'.toNat : Nat) : Int) = b' by omega]
    · show Nat.gcd _ _ = 1
      rw [show b'.toNat = b'.natAbs by omega]; exact cop
    · rw [show ((b'.toNat : Nat) : Int) = b' by omega]; grind
theorem nat_pow_lt {n m k : Nat} (h : n < 2 ^ m) (hk : m ≤ k) : n < 2 ^ k := Nat.lt_of_lt_of_le h (Nat.pow_le_pow_right (by omega) hk)
theorem gcd_lt {a b : Int} (hb : b ≠ 0) {k : Nat} (h : b.natAbs < 2 ^ k) : Int.gcd a b < 2 ^ k := by
  have h1 : Int.gcd a b ∣ b.natAbs := by
    have := Int.gcd_dvd_right (a := a) (b := b)
    exact Int.natAbs_dvd_natAbs.mpr this |> fun z => by simpa using z
  exact Nat.lt_of_le_of_lt (Nat.le_of_dvd (by omega) h1) h
theorem fn_fraction_eq {a b : Int} (L : Lh) (hb : b ≠ 0) : fn_fraction [.int a, .int b] L = .val (fr (Rat.divInt a b)) L := by
  have hg := gcd_pos (a := a) hb
  unfold fn_fraction
  refine run_ret (Γ0 := [some (.int a), some (.int b), none]) (d := fr (Rat.divInt a b)) (L' := L) rfl rfl ?_ (trunc_same rfl)
  unfold d_fraction
  by_cases hb0 : b < 0
  · have e := frac_gcd a b hb (-(Int.gcd a b : Int)) (by rw [if_pos hb0])
    have c1 : (-(Int.gcd a b : Int)) ≠ 0 := by omega
    have c2 : Int.gcd a b ≠ 0 := by omega
    simp [fn_divisor_eq, hb0, c1, c2, e]
  · have e := frac_gcd a b hb (Int.gcd a b : Int) (by rw [if_neg hb0])
    have c2 : Int.gcd a b ≠ 0 := by omega
    simp [fn_divisor_eq, hb0, c2, e]
/-- sizes -/
def Sz (n : Nat) (q : Rat) : Prop := Bd n q.num ∧ Bd n q.den
theorem rat_add (p q : Rat) : Rat.divInt (p.num * q.den + q.num * p.den) (p.den * q.den) = p + q := by
  rw [Rat.add_def', ← Rat.divInt_ofNat]; simp
theorem rat_sub (p q : Rat) : Rat.divInt (p.num * q.den - q.num * p.den) (p.den * q.den) = p - q := by
  rw [Rat.sub_def', ← Rat.divInt_ofNat]; simp
theorem rat_mul (p q : Rat) : Rat.divInt (p.num * q.num) (p.den * q.den) = p * q := by
  rw [← Rat.divInt_mul_divInt, Rat.num_divInt_den, Rat.num_divInt_den]
theorem rat_div (p q : Rat) : Rat.divInt (p.num * q.den) (p.den * q.num) = p / q := by
  rw [Rat.div_def, Rat.inv_def, ← Rat.divInt_mul_divInt, Rat.num_divInt_den]
theorem sz_divInt {a b : Int} {n m : Nat} (hb : b ≠ 0) (h1 : Bd n a) (h2 : Bd m b) : Bd n (Rat.divInt a b).num ∧ Bd m (Rat.divInt a b).den := by
  have e : (Rat.divInt a b).num * b = a * (Rat.divInt a b).den := by
    have h := Rat.num_divInt_den (Rat.divInt a b)
    exact (Rat.divInt_eq_divInt_iff (by have := (Rat.divInt a b).den_pos; omega) hb).mp h
  have cop := (Rat.divInt a b).reduced
  have en : (Rat.divInt a b).num.natAbs * b.natAbs = a.natAbs * (Rat.divInt a b).den := by
    have := congrArg Int.natAbs e
    rw [Int.natAbs_mul, Int.natAbs_mul] at this
    simpa using this
  have d1 : (Rat.divInt a b).den ∣ b.natAbs := Nat.Coprime.dvd_of_dvd_mul_left cop.symm (by rw [en]; exact Nat.dvd_mul_left _ _)
  have d2 : (Rat.divInt a b).num.natAbs ∣ a.natAbs := Nat.Coprime.dvd_of_dvd_mul_right cop (by rw [← en]; exact Nat.dvd_mul_right _ _)
  refine ⟨?_, ?_⟩
  · by_cases ha : a = 0
    · subst ha
      rw [Rat.zero_divInt]
      exact Nat.two_pow_pos n
    · exact Nat.lt_of_le_of_lt (Nat.le_of_dvd (by omega) d2) h1
  · unfold Bd at h2 ⊢
    rw [show ((((Rat.divInt a b).den : Nat) : Int)).natAbs = (Rat.divInt a b).den from rfl]
    exact Nat.lt_of_le_of_lt (Nat.le_of_dvd (by omega) d1) h2
theorem Bd.mul {a b : Int} {n m : Nat} (h1 : Bd n a) (h2 : Bd m b) : Bd (n + m) (a * b) := by
  unfold Bd at h1 h2 ⊢
  rw [Int.natAbs_mul, Nat.pow_add]; exact Nat.mul_lt_mul'' h1 h2
theorem Bd.add {a b : Int} {n : Nat} (h1 : Bd n a) (h2 : Bd n b) : Bd (n + 1) (a + b) := by
  unfold Bd at h1 h2 ⊢
  have : (2 : Nat) ^ (n + 1) = 2 ^ n + 2 ^ n := by rw [Nat.pow_succ]; omega
  omega
theorem Bd.sub {a b : Int} {n : Nat} (h1 : Bd n a) (h2 : Bd n b) : Bd (n + 1) (a - b) := by
  unfold Bd at h1 h2 ⊢
  have : (2 : Nat) ^ (n + 1) = 2 ^ n + 2 ^ n := by rw [Nat.pow_succ]; omega
  omega
theorem Bd.neg {a : Int} {n : Nat} (h1 : Bd n a) : Bd n (-a) := by unfold Bd at h1 ⊢; rw [Int.natAbs_neg]; exact h1
theorem den_ne (p : Rat) : (p.den : Int) ≠ 0 := by have := p.den_pos; omega
theorem dens_ne (p q : Rat) : (p.den : Int) * q.den ≠ 0 := Int.mul_ne_zero (den_ne p) (den_ne q)
theorem num_ne {q : Rat} (h : q ≠ 0) : q.num ≠ 0 := fun z => h (Rat.num_eq_zero.mp z)
section
variable {p q : Rat} {n m k : Nat}
theorem Sz.mono (h : Sz n p) (hk : n ≤ k) : Sz k p := ⟨h.1.mono hk, h.2.mono hk⟩
theorem Sz.add (hp : Sz n p) (hq : Sz m q) : Sz (n + m + 1) (p + q) := by
  rw [← rat_add]
  have h1 := hp.1.mul hq.2
  have h2 := hq.1.mul hp.2
  rw [Nat.add_comm m n] at h2
  have := sz_divInt (dens_ne p q) (h1.add h2) (hp.2.mul hq.2)
  exact ⟨this.1, this.2.mono (by omega)⟩
theorem Sz.sub (hp : Sz n p) (hq : Sz m q) : Sz (n + m + 1) (p - q) := by
  rw [← rat_sub]
  have h1 := hp.1.mul hq.2
  have h2 := hq.1.mul hp.2
  rw [Nat.add_comm m n] at h2
  have := sz_divInt (dens_ne p q) (h1.sub h2) (hp.2.mul hq.2)
  exact ⟨this.1, this.2.mono (by omega)⟩
theorem Sz.mul (hp : Sz n p) (hq : Sz m q) : Sz (n + m) (p * q) := by
  rw [← rat_mul]
  exact sz_divInt (dens_ne p q) (hp.1.mul hq.1) (hp.2.mul hq.2)
theorem Sz.div (hp : Sz n p) (hq : Sz m q) (h0 : q ≠ 0) : Sz (n + m) (p / q) := by
  rw [← rat_div]
  exact sz_divInt (Int.mul_ne_zero (den_ne p) (num_ne h0)) (hp.1.mul hq.2) (hp.2.mul hq.1)
theorem Sz.neg (hp : Sz n p) : Sz n (-p) := ⟨by rw [Rat.neg_num]; exact hp.1.neg, by rw [Rat.neg_den]; exact hp.2⟩
/-- items of a fraction -/
@[simp] theorem itemsT_fr (L : Lh) (q : Rat) : itemsT (fr q) L = some [.int q.num, .int q.den] := rfl
@[simp] theorem atI_0 {α : Type} (x : α) (r : List α) : L2.atI (x :: r) 0 = some x := by simp [L2.atI, L2.ixN]
@[simp] theorem atI_1 {α : Type} (x y : α) (r : List α) : L2.atI (x :: y :: r) 1 = some y := by
  simp only [L2.atI, L2.ixN, List.length_cons]
  rw [if_pos (by omega), if_pos (by omega)]; rfl
@[simp] theorem atI_2 {α : Type} (x y z : α) (r : List α) : L2.atI (x :: y :: z :: r) 2 = some z := by
  simp only [L2.atI, L2.ixN, List.length_cons]
  rw [if_pos (by omega), if_pos (by omega)]; rfl
/-- not too great to be multiplied -/
def LIM : Nat := 60000000
def Fit (q : Rat) : Prop := Sz LIM q
theorem Fit.of (h : Sz n p) (hn : n ≤ LIM) : Fit p := h.mono hn
theorem Fit.le (h : Sz n p) (hn : n ≤ 60000000) : Fit p := h.mono hn
theorem fit_mul {a b : Int} (ha : Bd LIM a) (hb : Bd LIM b) : CMulX a b := mulx_ok ha hb (by decide)
@[simp] theorem mulS {a b : Int} {L : Lh} (ha : Bd LIM a) (hb : Bd LIM b) : fMul (.int a) (.int b) L = .val (.int (a * b)) L := by
  have := fit_mul ha hb
  simp [this]
theorem fn_plus_eq (L : Lh) (hp : Fit p) (hq : Fit q) : fn_plus [fr p, fr q] L = .val (fr (p + q)) L := by
  have e := fn_fraction_eq (a := p.num * q.den + q.num * p.den) (b := p.den * q.den) L (dens_ne p q)
  rw [rat_add] at e
  unfold fn_plus
  refine run_ret (Γ0 := [some (fr p), some (fr q)]) (d := fr (p + q)) (L' := L) rfl rfl ?_ (trunc_same rfl)
  unfold d_plus
  have c1 := fit_mul hp.1 hq.2
  have c2 := fit_mul hq.1 hp.2
  have c3 := fit_mul hp.2 hq.2
  simp [c1, c2, c3, e, fIx]
theorem fn_less_eq (L : Lh) (hp : Fit p) (hq : Fit q) : fn_less [fr p, fr q] L = .val (fr (p - q)) L := by
  have e := fn_fraction_eq (a := p.num * q.den - q.num * p.den) (b := p.den * q.den) L (dens_ne p q)
  rw [rat_sub] at e
  unfold fn_less
  refine run_ret (Γ0 := [some (fr p), some (fr q)]) (d := fr (p - q)) (L' := L) rfl rfl ?_ (trunc_same rfl)
  unfold d_less
  have c1 := fit_mul hp.1 hq.2
  have c2 := fit_mul hq.1 hp.2
  have c3 := fit_mul hp.2 hq.2
  simp [c1, c2, c3, e, fIx]
theorem fn_times_eq (L : Lh) (hp : Fit p) (hq : Fit q) : fn_times [fr p, fr q] L = .val (fr (p * q)) L := by
  have e := fn_fraction_eq (a := p.num * q.num) (b := p.den * q.den) L (dens_ne p q)
  rw [rat_mul] at e
  unfold fn_times
  refine run_ret (Γ0 := [some (fr p), some (fr q)]) (d := fr (p * q)) (L' := L) rfl rfl ?_ (trunc_same rfl)
  unfold d_times
  have c1 := fit_mul hp.1 hq.1
  have c3 := fit_mul hp.2 hq.2
  simp [c1, c3, e, fIx]
theorem fn_over_eq (L : Lh) (hp : Fit p) (hq : Fit q) (h0 : q ≠ 0) : fn_over [fr p, fr q] L = .val (fr (p / q)) L := by
  have e := fn_fraction_eq (a := p.num * q.den) (b := p.den * q.num) L (Int.mul_ne_zero (den_ne p) (num_ne h0))
  rw [rat_div] at e
  unfold fn_over
  refine run_ret (Γ0 := [some (fr p), some (fr q)]) (d := fr (p / q)) (L' := L) rfl rfl ?_ (trunc_same rfl)
  unfold d_over
  have c1 := fit_mul hp.1 hq.2
  have c3 := fit_mul hp.2 hq.1
  simp [c1, c3, e, fIx]
theorem rat_lt_num (p q : Rat) : (p.num * q.den < q.num * p.den) = (p < q) := by rw [Rat.lt_iff]
theorem fn_is_below_eq (L : Lh) (hp : Fit p) (hq : Fit q) : fn_is_below [fr p, fr q] L = .val (.bl (decide (p < q))) L := by
  unfold fn_is_below
  refine run_ret (Γ0 := [some (fr p), some (fr q)]) (d := .bl (decide (p < q))) (L' := L) rfl rfl ?_ (trunc_same rfl)
  unfold d_is_below
  have c1 := fit_mul hp.1 hq.2
  have c2 := fit_mul hq.1 hp.2
  simp [c1, c2, rat_lt_num, fIx]
/-- without its sign -/
def rabs (q : Rat) : Rat := if q < 0 then -q else q
theorem fr_abs (q : Rat) : fr (rabs q) = .tup [.int q.num.natAbs, .int q.den] := by
  have h2 : (q.num < 0) = (q < 0) := by rw [Rat.lt_iff]; simp
  unfold rabs
  split
  · rename_i h
    have h3 : q.num < 0 := by rw [h2]; exact h
    unfold fr; rw [Rat.neg_num, Rat.neg_den]
    congr 3; omega
  · rename_i h
    have h3 : ¬ q.num < 0 := by rw [h2]; exact h
    unfold fr
    congr 3; omega
theorem fn_bare_eq (L : Lh) : fn_bare [fr q] L = .val (fr (rabs q)) L := by
  unfold fn_bare
  refine run_ret (Γ0 := [some (fr q)]) (d := fr (rabs q)) (L' := L) rfl rfl ?_ (trunc_same rfl)
  unfold d_bare
  simp [fr_abs, abs_if, fIx]
theorem fn_turned_eq (L : Lh) (p : Rat) : fn_turned [fr p] L = .val (fr (-p)) L := by
  refine run_ret (Γ0 := [some (fr p)]) (d := fr (-p)) (L' := L) rfl rfl ?_ (trunc_same rfl)
  have e : fr (-p) = .tup [.int (-p.num), .int p.den] := by unfold fr; rw [Rat.neg_num, Rat.neg_den]
  unfold d_turned
  simp [e, fIx]
theorem Sz.abs (hp : Sz n p) : Sz n (rabs p) := by
  unfold rabs; split
  · exact hp.neg
  · exact hp
/-- the sign -/
def sgn (q : Rat) : Int := if 0 < q then 1 else if q < 0 then -1 else 0
theorem fn_sign_eq (L : Lh) (q : Rat) : fn_sign [fr q] L = .val (.int (sgn q)) L := by
  unfold fn_sign
  refine run_ret (Γ0 := [some (fr q)]) (d := .int (sgn q)) (L' := L) rfl rfl ?_ (trunc_same rfl)
  unfold d_sign
  have h1 : (0 < q.num) = (0 < q) := by
    rw [Rat.lt_iff]; simp
  have h2 : (q.num < 0) = (q < 0) := by
    rw [Rat.lt_iff]; simp
  simp [h1, h2, fIx]
  unfold sgn
  by_cases a : 0 < q
  · have b : ¬ q < 0 := by grind
    simp [a, b]
  · by_cases b : q < 0 <;> simp [a, b]
end
/-- a pot at n -/
def PotAt (L : Lh) (n : Nat) : Prop := ∃ p q : Int, L[n]? = some (.lst [.int p, .int q]) ∧ 0 ≤ p ∧ 0 ≤ q ∧ q < 4294967296
/-- only the cell at n changed -/
structure But (n : Nat) (L L' : Lh) : Prop where
  len : L'.length = L.length
  at_ : ∀ m, m ≠ n → L'[m]? = L[m]?
theorem But.refl (n : Nat) (L : Lh) : But n L L := ⟨rfl, fun _ _ => rfl⟩
theorem But.trans {n : Nat} {L L1 L2 : Lh} (a : But n L L1) (b : But n L1 L2) : But n L L2 := ⟨b.len.trans a.len, fun m h => (b.at_ m h).trans (a.at_ m h)⟩
theorem But.set {n : Nat} {L : Lh} {c : Cell} : But n L (L.set n c) := ⟨by simp, fun m h => by rw [List.getElem?_set_ne (Ne.symm h)]⟩
theorem nopy_small {a j : Int} (h : j.natAbs < 2 ^ 60) : Builtin.divisionGoesByPylong a j = false := nopy (n := 60) h (by decide) (by decide)
theorem trunc_gen {L L' : Lh} {d : D} (h : closed L.length d = true) (h2 : L'.length = L.length) : trunc L d L' = .val d L' := by
  by_cases e : L' = L
  · subst e; exact trunc_same h
  · refine trunc_other fun z => e ?_
    rw [← h2, List.take_length] at z; exact z
theorem potAt_new {L : Lh} {p q : Int} (h0 : 0 ≤ p) (h1 : 0 ≤ q) (h2 : q < 4294967296) : PotAt (L ++ [.lst [.int p, .int q]]) L.length := ⟨p, q, by simp, h0, h1, h2⟩
theorem atI_some {α : Type} {xs : List α} {k : Nat} (h : k < xs.length) : L2.atI xs (k : Int) = some xs[k] := L2.atI_nat (List.getElem?_eq_getElem h)
theorem Bd12 {a : Int} (h : a.natAbs < 10 ^ 12) : Bd 40 a := by unfold Bd; omega
theorem fr_int (i : Int) : fr (i : Rat) = .tup [.int i, .int 1] := by unfold fr; simp
@[simp] theorem kit1 : kitB "int" "int" = some true := by decide +kernel
@[simp] theorem kit2 : kitB "int" "bool" = some false := by decide +kernel
@[simp] theorem kit3 : kitB "tuple" "tuple" = some true := by decide +kernel
@[simp] theorem tyName_fr (q : Rat) (L : Lh) : tyName (fr q) L = some "tuple" := rfl
/-! ## polynomials: lists of fractions -/
def pol (ps : List Rat) : D := .tup (ps.map fr)
def datF (q : Rat) : PyData := .tuple [.int q.num, .int q.den]
theorem fr_inj {p q : Rat} (h1 : p.num = q.num) (h2 : p.den = q.den) : p = q := Rat.ext h1 h2
@[simp high] theorem eqv_fr (p q : Rat) : PyData.eqv (.tuple [.int p.num, .int p.den]) (.tuple [.int q.num, .int q.den]) = decide (p = q) := by
  rw [eqv_tuple, eqv_cons, eqv_cons, eqv_nil, eqv_int, eqv_int]
  by_cases h : p = q
  · subst h; simp
  · rw [decide_eq_false h]
    by_cases h1 : p.num = q.num
    · have h2 : ¬ ((p.den : Int) = q.den) := fun z => h (fr_inj h1 (by omega))
      simp [h1, h2]
    · simp [h1]
theorem eqv_frs : ∀ ps qs : List Rat, PyData.eqvAll (ps.map datF) (qs.map datF) = decide (ps = qs)
  | [], [] => by simp
  | [], q :: qs => by simp
  | p :: ps, [] => by simp
  | p :: ps, q :: qs => by
    rw [List.map_cons, List.map_cons, eqv_cons, eqv_frs ps qs]
    unfold datF
    rw [eqv_fr]
    by_cases h : p = q <;> by_cases h2 : ps = qs <;> simp [h, h2]
theorem canLay_frs : ∀ ps : List Rat, PyData.canLayAll0 (ps.map datF) = true
  | [] => by simp [PyData.canLayAll0]
  | p :: ps => by simp [PyData.canLayAll0, canLay_frs ps, datF, PyData.canLay0]
theorem depth_frs : ∀ ps : List Rat, PyData.depthAll (ps.map datF) ≤ 1
  | [] => by simp [PyData.depthAll]
  | p :: ps => by
    have := depth_frs ps
    simp [PyData.depthAll, datF, PyData.depth]
    omega
@[simp] theorem shaped_frs (ps : List Rat) : SeqAt.shaped (.tuple (ps.map datF)) = true := by
  have h := depth_frs ps
  unfold SeqAt.shaped
  rw [Bool.and_eq_true]
  exact ⟨by simp only [PyData.canLay0]; exact canLay_frs ps, decide_eq_true (by simp only [PyData.depth]; omega)⟩
@[simp] theorem shaped_frsL (ps : List Rat) : SeqAt.shaped (.list (ps.map datF)) = true := by
  have h := depth_frs ps
  unfold SeqAt.shaped
  rw [Bool.and_eq_true]
  exact ⟨by simp only [PyData.canLay0]; exact canLay_frs ps, decide_eq_true (by simp only [PyData.depth]; omega)⟩
theorem opts_frs (k : Nat) (L : Lh) : ∀ ps : List Rat, opts (dat (k + 2) L) (ps.map fr) = some (ps.map datF)
  | [] => rfl
  | p :: ps => opts_cons rfl (opts_frs k L ps)
@[simp] theorem dat_pol {L : Lh} {ps : List Rat} : dat 8 L (pol ps) = some (.tuple (ps.map datF)) := by
  unfold pol
  rw [dat_tup, opts_frs]; rfl
theorem dat_frsL {L : Lh} {n : Nat} {ps : List Rat} (h : L[n]? = some (.lst (ps.map fr))) : dat 8 L (.loc n) = some (.list (ps.map datF)) := by
  rw [dat_loc h, opts_frs]; rfl
@[simp high] theorem eqv_pol (ps qs : List Rat) : PyData.eqv (.tuple (ps.map datF)) (.tuple (qs.map datF)) = decide (ps = qs) := by rw [eqv_tuple, eqv_frs]
theorem closeds_frs (n : Nat) : ∀ ps : List Rat, closeds n (ps.map fr) = true
  | [] => rfl
  | p :: ps => by rw [List.map_cons, closeds, closed_fr, closeds_frs n ps]; rfl
@[simp] theorem closed_pol (n : Nat) (ps : List Rat) : closed n (pol ps) = true := closeds_frs n ps
@[simp] theorem itemsT_pol {L : Lh} {ps : List Rat} : itemsT (pol ps) L = some (ps.map fr) := rfl
@[simp] theorem tupI_pol {ps : List Rat} : tupI (pol ps) = some ⟨ps.map fr, fun _ => True⟩ := rfl
@[simp] theorem tyName_pol {L : Lh} {ps : List Rat} : tyName (pol ps) L = some "tuple" := rfl
theorem k0 : k_NOUGHT = fr 0 := rfl
theorem k1 : k_ONE = fr 1 := rfl
/-- without noughts at the end -/
def trim : List Rat → List Rat
  | [] => []
  | c :: r => match trim r with
    | [] => if c = 0 then [] else [c]
    | d :: s => c :: d :: s
theorem trim_zero : ∀ {ps : List Rat}, (∀ p ∈ ps, p = 0) → trim ps = []
  | [], _ => rfl
  | c :: r, h => by
    rw [trim, trim_zero fun p hp => h p (by simp [hp])]
    simp [h c (by simp)]
theorem trim_take : ∀ (ps : List Rat) (j : Nat), j ≤ ps.length → (∀ k, j ≤ k → ∀ h : k < ps.length, ps[k] = 0) → (j = 0 ∨ ∃ h : j - 1 < ps.length, ps[j - 1] ≠ 0) → ps.take j = trim ps
  | [], j, hj, _, _ => by simp [trim]
  | c :: r, 0, hj, hz, _ => by
    rw [List.take_zero, trim_zero fun p hp => ?_]
    obtain ⟨k, hk, e⟩ := List.mem_iff_getElem.mp hp
    rw [← e]; exact hz k (by omega) hk
  | c :: r, j + 1, hj, hz, hn => by
    have ih := trim_take r j (by simpa using hj) (fun k hk h => by
      have := hz (k + 1) (by omega) (by simpa using h)
      simpa using this) (by
      rcases Nat.eq_zero_or_pos j with h0 | h0
      · exact .inl h0
      · obtain ⟨h1, h2⟩ := hn.resolve_left (by omega)
        refine .inr ⟨by simp at hj; omega, ?_⟩
        have e : j + 1 - 1 = (j - 1) + 1 := by omega
        simp only [e, List.getElem_cons_succ] at h2
        exact h2)
    rw [List.take_succ_cons, ih, trim]
    cases ht : trim r with
    | cons d s => rfl
    | nil =>
      rw [ht] at ih
      have hj0 : j = 0 := by
        rcases Nat.eq_zero_or_pos j with h | h
        · exact h
        · have := congrArg List.length ih
          rw [List.length_take, List.length_nil] at this; rw [List.length_cons] at hj; omega
      subst hj0
      obtain ⟨h1, h2⟩ := hn.resolve_left (by omega)
      have h3 : c ≠ 0 := by simpa using h2
      simp [h3]
/-- a sequence of fractions: a tuple, or a list of the cells -/
inductive SeqF (L : Lh) (ps : List Rat) : D → Prop where
  | tup : SeqF L ps (pol ps)
  | lst {n : Nat} (h : L[n]? = some (.lst (ps.map fr))) : SeqF L ps (.loc n)
theorem SeqF.items {L : Lh} {ps : List Rat} {x : D} (s : SeqF L ps x) : itemsT x L = some (ps.map fr) := by
  cases s with
  | tup => rfl
  | lst h => exact items_loc h
theorem cutD_take (xs : List D) (j : Nat) (h : j ≤ xs.length) : cutD xs none (some (j : Int)) = xs.take j := by
  unfold cutD
  rw [HT.sIx_none, HT.sIx_nat, Nat.min_eq_left h]; simp
theorem cutD_drop (xs : List D) (j : Nat) : cutD xs (some (j : Int)) none = xs.drop j := by
  unfold cutD
  rw [HT.sIx_none, HT.sIx_nat]
  rw [List.take_of_length_le (by simp)]
  rcases Nat.le_total j xs.length with h | h
  · rw [Nat.min_eq_left h]
  · rw [Nat.min_eq_right h, List.drop_of_length_le (Nat.le_refl _), List.drop_of_length_le h]
theorem frs_at {ps : List Rat} {k : Nat} (h : k < ps.length) : L2.atI (ps.map fr) (k : Int) = some (fr ps[k]) := by
  rw [atI_some (xs := ps.map fr) (by simpa using h)]; simp
theorem fn_lean_eq {L : Lh} {ps : List Rat} {x : D} (s : SeqF L ps x) : fn_lean [x] L = .val (pol (trim ps)) L := by
  have hi := s.items
  have run : ∀ L', d_lean [some x, none] L = .ret (pol (trim ps)) (L ++ L') → fn_lean [x] L = .val (pol (trim ps)) L := fun L' e =>
    run_ret (Γ0 := [some x, none]) rfl rfl e (trunc_flat (closed_pol _ _))
  have loop : ∃ j : Nat, j ≤ ps.length ∧ ps.take j = trim ps ∧ sWhile (tAnd3 (tE (eOp fGt (eVar 1) (eC (.int 0)))) (tE (eOp fEq (eOp fIx (eVar 0) (eOp fSub (eVar 1) (eC (.int 1)))) (eC k_NOUGHT)))) (sSet 1 (eOp fSub (eVar 1) (eC (.int 1)))) [some x, some (.int ps.length)] L = .nx [some x, some (.int j)] L := by
    refine sWhile_inv (fun m Γ L' => L' = L ∧ m ≤ ps.length ∧ Γ = [some x, some (.int m)] ∧ ∀ k, m ≤ k → ∀ h : k < ps.length, ps[k] = 0) (fun o => ∃ j : Nat, j ≤ ps.length ∧ ps.take j = trim ps ∧ o = .nx [some x, some (.int j)] L) (by simp) ?_ ps.length _ L ⟨rfl, Nat.le_refl _, rfl, fun k h1 h2 => absurd h2 (by omega)⟩
    rintro m Γ L' ⟨rfl, hm, rfl, hz⟩
    cases m with
    | zero => exact .inl ⟨L', by simp, 0, by omega, trim_take ps 0 (by omega) hz (.inl rfl), rfl⟩
    | succ m =>
      have hat := frs_at (ps := ps) (k := m) (by omega)
      have e1 : ((m + 1 : Nat) : Int) - 1 = (m : Int) := by omega
      have hpos : (0 : Int) < ((m + 1 : Nat) : Int) := by omega
      by_cases h0 : ps[m]'(by omega) = 0
      · refine .inr ⟨L', by simp [hi, hat, k0, h0, e1, fIx, fEq, cmpD], .inl ⟨[some x, some (.int m)], L', m, .inl (by simp [e1]), by omega, rfl, by omega, rfl, fun k hk h => ?_⟩⟩
        rcases Nat.eq_or_lt_of_le hk with e | e
        · subst e; exact h0
        · exact hz k e h
      · exact .inl ⟨L', by simp [hi, hat, k0, h0, e1, fIx, fEq, cmpD], m + 1, hm, trim_take ps (m + 1) hm hz (.inr ⟨by simp; omega, by simpa using h0⟩), rfl⟩
  obtain ⟨j, hj, ht, loop⟩ := loop
  have hj' : j ≤ (ps.map fr).length := by simpa using hj
  cases s with
  | tup =>
    refine run [] ?_
    unfold d_lean
    rw [List.append_nil, seq_nx (Γ1 := [some (pol ps), some (.int ps.length)]) (L1 := L) (by simp), seq_nx loop]
    have e : sliceD (pol ps) none (some (j : Int)) L = .val (pol (trim ps)) L := by
      unfold pol
      rw [sliceD_tup, cutD_take _ _ hj', ← List.map_take, ht]
    have e2 : fTuple [pol (trim ps)] L = .val (pol (trim ps)) L := rfl
    simp [e, ← ht, -fTuple]
    rw [ht, e2]
  | @lst n h =>
    refine run [.lst ((trim ps).map fr)] ?_
    unfold d_lean
    rw [seq_nx (Γ1 := [some (.loc n), some (.int ps.length)]) (L1 := L) (by simp [items_loc h]), seq_nx loop]
    have e : sliceD (.loc n) none (some (j : Int)) L = .val (.loc L.length) (L ++ [.lst ((trim ps).map fr)]) := by
      rw [sliceD_loc h, cutD_take _ _ hj', ← List.map_take, ht]
    have e2 : items (.loc L.length) (L ++ [.lst ((trim ps).map fr)]) = some ((trim ps).map fr) := items_loc (by simp)
    simp [e, e2]
    rfl
/-! ## a fraction over D, above at most B -/
def Ov (D B : Nat) (q : Rat) : Prop := ∃ N : Int, q * (D : Rat) = (N : Rat) ∧ N.natAbs ≤ B
section
variable {D E B C : Nat} {p q : Rat}
theorem natR_ne (h : 0 < D) : (D : Rat) ≠ 0 := by
  intro z
  have : ((D : Int) : Rat) = ((0 : Int) : Rat) := z
  have := Rat.intCast_inj.mp this
  omega
theorem Ov.eq (hD : 0 < D) (h : Ov D B q) : ∃ N : Int, q = Rat.divInt N D ∧ N.natAbs ≤ B := by
  obtain ⟨N, e, h⟩ := h
  refine ⟨N, ?_, h⟩
  have hD' := natR_ne hD
  rw [Rat.divInt_eq_div]
  show q = (N : Rat) / (D : Rat)
  rw [← e]; grind
theorem Ov.sz {k : Nat} (hD : 0 < D) (h : Ov D B q) (h1 : D < 2 ^ k) (h2 : B < 2 ^ k) : Sz k q := by
  obtain ⟨N, rfl, h⟩ := h.eq hD
  exact sz_divInt (by omega) (show N.natAbs < 2 ^ k by omega) (show (D : Int).natAbs < 2 ^ k by simpa using h1)
theorem Ov.mono (h : Ov D B q) (hk : B ≤ C) : Ov D C q := let ⟨N, e, h⟩ := h; ⟨N, e, by omega⟩
theorem Ov.zero : Ov D B 0 := ⟨0, by simp, by simp⟩
theorem Ov.add (h1 : Ov D B p) (h2 : Ov D C q) : Ov D (B + C) (p + q) := by
  obtain ⟨N, e, h⟩ := h1
  obtain ⟨M, f, g⟩ := h2
  exact ⟨N + M, by rw [Rat.intCast_add, ← e, ← f]; grind, by omega⟩
theorem Ov.neg (h1 : Ov D B p) : Ov D B (-p) := by
  obtain ⟨N, e, h⟩ := h1
  exact ⟨-N, by rw [Rat.intCast_neg, ← e]; grind, by omega⟩
theorem Ov.sub (h1 : Ov D B p) (h2 : Ov D C q) : Ov D (B + C) (p - q) := by
  rw [Rat.sub_eq_add_neg]; exact h1.add h2.neg
theorem Ov.mul (h1 : Ov D B p) (h2 : Ov E C q) : Ov (D * E) (B * C) (p * q) := by
  obtain ⟨N, e, h⟩ := h1
  obtain ⟨M, f, g⟩ := h2
  refine ⟨N * M, ?_, by rw [Int.natAbs_mul]; exact Nat.mul_le_mul h g⟩
  rw [Rat.intCast_mul, ← e, ← f, Rat.natCast_mul]; grind
theorem Ov.up (h1 : Ov D B p) (k : Nat) : Ov (D * k) (B * k) p := by
  have := h1.mul (q := 1) (E := k) (C := k) ⟨k, by rw [Rat.one_mul]; rfl, by simp⟩
  rwa [Rat.mul_one] at this
theorem Ov.up' (h1 : Ov D B p) (k : Nat) : Ov (k * D) (k * B) p := by
  rw [Nat.mul_comm k, Nat.mul_comm k]; exact h1.up k
theorem ov_of_sz {n : Nat} (h : Sz n q) : Ov q.den (2 ^ n) q := ⟨q.num, by
  have h1 := Rat.num_divInt_den q
  have h2 := natR_ne q.den_pos
  rw [Rat.divInt_eq_div] at h1
  have h3 : (q.num : Rat) / ((q.den : Nat) : Rat) = q := h1
  grind, Nat.le_of_lt h.1⟩
theorem ov_int (i : Int) (h : i.natAbs ≤ B) : Ov 1 B (i : Rat) := ⟨i, by simp, h⟩
end
/-- all of a list over D -/
def PO (D B : Nat) (ps : List Rat) : Prop := ∀ p ∈ ps, Ov D B p
theorem PO.nil {D B : Nat} : PO D B [] := fun _ h => nomatch h
theorem PO.mono {D B C : Nat} {ps : List Rat} (h : PO D B ps) (hk : B ≤ C) : PO D C ps := fun p hp => (h p hp).mono hk
theorem PO.up {D B : Nat} {ps : List Rat} (h : PO D B ps) (k : Nat) : PO (D * k) (B * k) ps := fun p hp => (h p hp).up k
theorem PO.up' {D B : Nat} {ps : List Rat} (h : PO D B ps) (k : Nat) : PO (k * D) (k * B) ps := fun p hp => (h p hp).up' k
/-- fractions of n bits have a common bottom -/
theorem po_of_sz {n : Nat} : ∀ {ps : List Rat}, (∀ p ∈ ps, Sz n p) → ∃ D, 0 < D ∧ D ≤ 2 ^ (n * ps.length) ∧ PO D (2 ^ (n * ps.length)) ps
  | [], _ => ⟨1, by decide, by simp, PO.nil⟩
  | p :: ps, h => by
    obtain ⟨D, h1, h2, h3⟩ := po_of_sz (ps := ps) fun q hq => h q (by simp [hq])
    have hp := h p (by simp)
    have hd : p.den ≤ 2 ^ n := Nat.le_of_lt (by have := hp.2; unfold Bd at this; simpa using this)
    have e : 2 ^ (n * (p :: ps).length) = 2 ^ n * 2 ^ (n * ps.length) := by rw [List.length_cons, Nat.mul_succ, Nat.add_comm, Nat.pow_add]
    refine ⟨p.den * D, Nat.mul_pos p.den_pos h1, by rw [e]; exact Nat.mul_le_mul hd h2, fun q hq => ?_⟩
    rcases List.mem_cons.mp hq with rfl | hq
    · rw [e]; exact ((ov_of_sz hp).up D).mono (Nat.mul_le_mul (Nat.le_refl _) h2)
    · rw [e]; exact ((h3 q hq).up' p.den).mono (Nat.mul_le_mul hd (Nat.le_refl _))
theorem lt_pow_succ {a k : Nat} (h : a ≤ 2 ^ k) : a < 2 ^ (k + 1) := by rw [Nat.pow_succ]; have := Nat.two_pow_pos k; omega
theorem lt_pow_of {a k m : Nat} (h : a ≤ 2 ^ k) (hk : k < m) : a < 2 ^ m := Nat.lt_of_lt_of_le (lt_pow_succ h) (Nat.pow_le_pow_right (by decide) hk)
theorem Ov.szb {D B d b k : Nat} {q : Rat} (h : Ov D B q) (hD : 0 < D) (h1 : D ≤ 2 ^ d) (h2 : B ≤ 2 ^ b) (hd : d < k) (hb : b < k) : Sz k q := h.sz hD (lt_pow_of h1 hd) (lt_pow_of h2 hb)
/-! ## without noughts at the end -/
theorem mem_trim : ∀ {ps : List Rat} {p : Rat}, p ∈ trim ps → p ∈ ps
  | [], _, h => nomatch h
  | c :: r, p, h => by
    rw [trim] at h
    have ih := @mem_trim r
    split at h
    · split at h
      · exact nomatch h
      · simp at h; simp [h]
    · rename_i d s e
      rcases List.mem_cons.mp h with rfl | h
      · simp
      · rw [← e] at h
        exact List.mem_cons_of_mem _ (ih h)
theorem PO.trim {D B : Nat} {ps : List Rat} (h : PO D B ps) : PO D B (trim ps) := fun p hp => h p (mem_trim hp)
theorem trim_len : ∀ ps : List Rat, (trim ps).length ≤ ps.length
  | [] => Nat.le_refl _
  | c :: r => by
    have ih := trim_len r
    rw [trim]
    split
    · split <;> simp
    · rename_i d s e
      rw [e] at ih
      simp at ih ⊢; omega
theorem trim_cons_ne {c : Rat} {r : List Rat} (h : c ≠ 0) : trim (c :: r) = c :: trim r := by
  rw [trim]; split
  · rename_i e; rw [if_neg h, e]
  · rename_i e; rw [e]
theorem trim_trim : ∀ ps : List Rat, trim (trim ps) = trim ps
  | [] => rfl
  | c :: r => by
    have ih := trim_trim r
    rw [trim]
    cases e : trim r with
    | nil =>
      by_cases h : c = 0
      · simp [h, trim]
      · simp only [if_neg h]; rw [trim_cons_ne h, trim]
    | cons d s =>
      rw [e] at ih
      simp only []
      rw [trim, ih]
/-- what a polynomial is at x -/
def ev (ps : List Rat) (x : Rat) : Rat := ps.foldr (fun p f => f * x + p) 0
@[simp] theorem ev_nil (x : Rat) : ev [] x = 0 := rfl
@[simp] theorem ev_cons (p : Rat) (ps : List Rat) (x : Rat) : ev (p :: ps) x = ev ps x * x + p := rfl
theorem ev_trim : ∀ (ps : List Rat) (x : Rat), ev (trim ps) x = ev ps x
  | [], _ => rfl
  | c :: r, x => by
    have ih := ev_trim r x
    rw [trim]
    split
    · rename_i e
      rw [e] at ih
      split
      · rename_i h0; rw [ev_cons, ← ih, h0]; simp; grind
      · rw [ev_cons, ev_cons, ← ih]
    · rename_i d s e
      rw [e] at ih
      rw [ev_cons, ih, ← ev_cons]
/-- the size of a worth -/
theorem ov_ev {D B E M : Nat} {x : Rat} (hx : Ov E M x) : ∀ {r : List Rat}, PO D B r → ∀ K, (hM : E ≤ M) → r.length ≤ K → Ov (D * E ^ K) (r.length * (B * M ^ K)) (ev r x)
  | [], _, K, _, _ => by simpa using Ov.zero
  | p :: r, h, 0, _, hk => absurd hk (by simp)
  | p :: r, h, K + 1, hM, hk => by
    have h1 := ov_ev hx (r := r) (fun q hq => h q (by simp [hq])) K hM (by simpa using hk)
    have h2 := (h1.mul hx)
    have h3 : Ov (D * E ^ (K + 1)) (B * M ^ (K + 1)) p := ((h p (by simp)).up (E ^ (K + 1))).mono (Nat.mul_le_mul (Nat.le_refl _) (Nat.pow_le_pow_left hM _))
    have e1 : D * E ^ K * E = D * E ^ (K + 1) := by rw [Nat.pow_succ, Nat.mul_assoc]
    have e2 : r.length * (B * M ^ K) * M = r.length * (B * M ^ (K + 1)) := by rw [Nat.pow_succ]; ac_rfl
    rw [e1, e2] at h2
    have := h2.add h3
    rw [ev_cons, List.length_cons, Nat.succ_mul]
    exact this
/-! ## the place of a fraction -/
def at0 (ps : List Rat) (k : Nat) : Rat := ps.getD k 0
theorem at0_lt {ps : List Rat} {k : Nat} (h : k < ps.length) : at0 ps k = ps[k] := by unfold at0; simp [h]
theorem at0_ge {ps : List Rat} {k : Nat} (h : ps.length ≤ k) : at0 ps k = 0 := by
  unfold at0; rw [List.getD_eq_getElem?_getD, List.getElem?_eq_none h]; rfl
theorem PO.at0 {D B : Nat} {ps : List Rat} (h : PO D B ps) (k : Nat) : Ov D B (at0 ps k) := by
  by_cases hk : k < ps.length
  · rw [at0_lt hk]; exact h _ (List.getElem_mem _)
  · rw [at0_ge (by omega)]; exact Ov.zero
theorem fn_part_at_eq (L : Lh) (ps : List Rat) (k : Nat) : fn_part_at [pol ps, .int k] L = .val (fr (at0 ps k)) L := by
  refine run_ret (Γ0 := [some (pol ps), some (.int k)]) (d := fr (at0 ps k)) (L' := L) rfl rfl ?_ (trunc_same rfl)
  unfold d_part_at
  by_cases h : k < ps.length
  · rw [at0_lt h]
    simp [h, frs_at h, fIx]
  · rw [at0_ge (by omega)]
    simp [h, k0]
def psum (a b : List Rat) : List Rat := trim ((List.range (max a.length b.length)).map fun k => at0 a k + at0 b k)
theorem PO.psum {D B C : Nat} {a b : List Rat} (h1 : PO D B a) (h2 : PO D C b) : PO D (B + C) (psum a b) := by
  refine PO.trim fun p hp => ?_
  obtain ⟨k, _, rfl⟩ := List.mem_map.mp hp
  exact (h1.at0 k).add (h2.at0 k)
theorem chkT : (fun _ : Lh => True) = fun _ => True := rfl
theorem rngD_eq (n : Nat) : rngD 0 n = (List.range n).map fun k => D.int (k : Nat) := by
  unfold rngD; simp
/-! ## sizes, by their shape -/
def SzP (n : Nat) (ps : List Rat) : Prop := ∀ p ∈ ps, Sz n p
def FitP (ps : List Rat) : Prop := ∀ p ∈ ps, Fit p
theorem SzP.mono {n m : Nat} {ps : List Rat} (h : SzP n ps) (hm : n ≤ m) : SzP m ps := fun p hp => (h p hp).mono hm
theorem FitP.of {n : Nat} {ps : List Rat} (h : SzP n ps) (hm : n ≤ LIM) : FitP ps := fun p hp => Fit.of (h p hp) hm
theorem szP_nil {n : Nat} : SzP n [] := fun _ h => nomatch h
theorem szP_cons {n : Nat} {p : Rat} {ps : List Rat} (h : Sz n p) (h2 : SzP n ps) : SzP n (p :: ps) := fun q hq => by
  rcases List.mem_cons.mp hq with rfl | hq
  · exact h
  · exact h2 q hq
theorem sz_0 (n : Nat) : Sz (n + 1) 0 := ⟨by unfold Bd; simp [Nat.two_pow_pos], by unfold Bd; simp⟩
theorem sz_1 (n : Nat) : Sz (n + 1) 1 := ⟨by unfold Bd; simp, by unfold Bd; simp⟩
theorem sz0 : Sz 1 0 := sz_0 0
theorem sz1 : Sz 1 1 := sz_1 0
theorem fit0 : Fit 0 := Fit.of sz0 (by decide)
theorem fit1 : Fit 1 := Fit.of sz1 (by decide)
theorem sz_at0 {n : Nat} {ps : List Rat} (h : SzP n ps) (k : Nat) : Sz (n + 1) (at0 ps k) := by
  by_cases hk : k < ps.length
  · rw [at0_lt hk]; exact (h _ (List.getElem_mem _)).mono (by omega)
  · rw [at0_ge (by omega)]; exact sz_0 n
theorem SzP.get {n : Nat} {ps : List Rat} (h : SzP n ps) {k : Nat} (hk : k < ps.length) : Sz n ps[k] := h _ (List.getElem_mem hk)
theorem FitP.at0 {ps : List Rat} (h : FitP ps) (k : Nat) : Fit (at0 ps k) := by
  by_cases hk : k < ps.length
  · rw [at0_lt hk]; exact h _ (List.getElem_mem _)
  · rw [at0_ge (by omega)]; exact fit0
theorem sz_int {i : Int} {n : Nat} (h : i.natAbs < 2 ^ n) (h0 : 0 < n) : Sz n (i : Rat) := ⟨by simpa [Bd] using h, by unfold Bd; simp; omega⟩
theorem fr_nat (k : Nat) : fr (k : Rat) = .tup [.int k, .int 1] := by
  have := fr_int (k : Int)
  exact this
theorem sz_nat {k n : Nat} (h : k < 2 ^ n) (h0 : 0 < n) : Sz n (k : Rat) := by
  have e : ((k : Nat) : Rat) = ((k : Int) : Rat) := rfl
  rw [e]
  exact ⟨by simpa [Bd] using h, by unfold Bd; simp; omega⟩
/-! ## frames for polynomials -/
@[simp] theorem ltR_pol {L : Lh} {ps : List Rat} : ltR (pol ps) L = .val ⟨ps.map fr, fun _ => True⟩ L := rfl
@[simp] theorem revR_pol {L : Lh} {ps : List Rat} : revR (pol ps) L = .val ⟨(ps.map fr).reverse, fun _ => True⟩ L := rfl
@[simp] theorem enR_pol {L : Lh} {ps : List Rat} : enR (pol ps) L = .val ⟨enumD (ps.map fr), fun _ => True⟩ L := rfl
@[simp] theorem fLen_pol {L : Lh} {ps : List Rat} : fLen [pol ps] L = .val (.int ps.length) L := by simp
@[simp] theorem enumD_len' (xs : List D) : (enumD xs).length = xs.length := enumD_len xs
@[simp] theorem enumD_get {xs : List D} {i : Nat} (h : i < (enumD xs).length) : (enumD xs)[i] = .tup [.int (i : Nat), xs[i]'(by simpa using h)] := by simp [enumD]
@[simp] theorem zipD_len' (xs ys : List D) : (zipD xs ys).length = min xs.length ys.length := zipD_len xs ys
@[simp] theorem zipD_get {xs ys : List D} {i : Nat} (h : i < (zipD xs ys).length) : (zipD xs ys)[i] = .tup [xs[i]'(by simp at h; omega), ys[i]'(by simp at h; omega)] := by simp [zipD]
@[simp] theorem rngD_len (i : Int) (n : Nat) : (rngD i n).length = n := by simp [rngD]
@[simp] theorem rngD_get {i : Int} {n k : Nat} (h : k < (rngD i n).length) : (rngD i n)[k] = .int (i + k) := by simp [rngD]
theorem trunc_pol {L G' : Lh} {ps : List Rat} : trunc L (pol ps) (L ++ G') = .val (pol ps) L := trunc_flat (closed_pol _ _)
theorem ixN_nat {n i : Nat} (h : i < n) : ixN n (i : Int) = some i := by
  unfold ixN
  have e1 : ¬ ((i : Int) < 0) := by omega
  simp [e1, h]
theorem at_frs {ps : List Rat} {k : Nat} (h : k < ps.length) : L2.atI (ps.map fr) (k : Int) = some (fr (at0 ps k)) := by rw [frs_at h, at0_lt h]
/-- an item of a list, by a number that is a Nat -/
theorem fIx_loc {L : Lh} {n k : Nat} {i : Int} {xs : List D} {d : D} (h : L[n]? = some (.lst xs)) (hi : i = (k : Int)) (hd : xs[k]? = some d) : fIx (.loc n) (.int i) L = .val d L := by
  subst hi
  have hat : L2.atI xs (k : Int) = some d := L2.atI_nat hd
  simp only [fIx, itemsT, items_loc h, hat]
theorem fIx_tup {L : Lh} {k : Nat} {i : Int} {xs : List D} {d : D} (hi : i = (k : Int)) (hd : xs[k]? = some d) : fIx (.tup xs) (.int i) L = .val d L := by
  subst hi
  have hat : L2.atI xs (k : Int) = some d := L2.atI_nat hd
  simp only [fIx, itemsT, hat]
theorem fIx_pol {L : Lh} {k : Nat} {i : Int} {ps : List Rat} (hi : i = (k : Int)) (hk : k < ps.length) : fIx (pol ps) (.int i) L = .val (fr (at0 ps k)) L :=
  fIx_tup hi (by rw [at0_lt hk]; simp [hk])
theorem fIx_frs {L : Lh} {n k : Nat} {i : Int} {ps : List Rat} (h : L[n]? = some (.lst (ps.map fr))) (hi : i = (k : Int)) (hk : k < ps.length) : fIx (.loc n) (.int i) L = .val (fr (at0 ps k)) L :=
  fIx_loc h hi (by rw [at0_lt hk]; simp [hk])
@[simp] theorem fIx_fr0 {L : Lh} {q : Rat} : fIx (fr q) (.int 0) L = .val (.int q.num) L := by simp [fIx]
@[simp] theorem fIx_fr1 {L : Lh} {q : Rat} : fIx (fr q) (.int 1) L = .val (.int q.den) L := by simp [fIx]
@[simp] theorem items_app {X : Lh} {m : Nat} {xs : List D} (h : m = X.length) : items (.loc m) (X ++ [.lst xs]) = some xs := by subst h; exact items_loc (by simp)
/-- a whole number as a fraction -/
def irat (i : Int) : Rat := (i : Rat)
theorem fr_irat (i : Int) : D.tup [.int i, .int 1] = fr (irat i) := (fr_int i).symm
theorem map_frs {α : Type} (l : List α) (g : α → D) (f : α → Rat) (x : D → D) (h : ∀ a ∈ l, x (g a) = fr (f a)) : (l.map g).map x = (l.map f).map fr := by
  rw [List.map_map, List.map_map]
  exact List.map_congr_left h
theorem set_last {L : Lh} {c d : Cell} : (L ++ [c]).set L.length d = L ++ [d] := set_append_last
theorem get_last {L : Lh} {c : Cell} : (L ++ [c])[L.length]? = some c := by simp
/-- a comprehension that only reads -/
theorem wp_lcMap {chk : Lh → Prop} {g : Tg3} {e : E3} {Γ0 : G3} {xs : List D} {Q : D → Lh → Prop} {E : Str → Lh → Prop} {L : Lh} (f : Nat → D) (hl : xs.length ≤ 100000) (hc : ∀ acc, chk (L ++ [.lst acc]))
    (step : ∀ i (h : i < xs.length) acc, wpS (g xs[i] Γ0 (L ++ [.lst acc])) ⟨fun Γ1 L1 => wpR (e Γ1 L1) (fun y L2 => y = f i ∧ L2 = L ++ [.lst acc]) noE, fun _ _ => False, fun _ _ => False, fun _ _ => False, fun _ _ _ => False⟩)
    (hn : Q (.loc L.length) (L ++ [.lst ((List.range xs.length).map f)])) : wpR (lcL chk g tTrue e Γ0 L.length xs (L ++ [.lst []])) Q E := by
  refine wp_lc (fun i ys L' => ys = (List.range i).map f ∧ L' = L ++ [.lst ys]) ⟨by simp, rfl⟩ get_last (fun i ys L' hi hL h => by rw [h.2]; exact hc _) (fun i hi ys L' hL h => ?_) (fun ys L' hL h => ?_)
  · obtain ⟨h1, rfl⟩ := h
    have s := step i hi ys
    cases hg : g xs[i] Γ0 (L ++ [.lst ys]) with
    | nx Γ1 L1 =>
      rw [hg] at s
      have s : wpR (e Γ1 L1) (fun y L2 => y = f i ∧ L2 = L ++ [.lst ys]) noE := s
      simp only [wpS_nx, tTrue, wpR_val, if_true]
      refine s.mono (fun y L2 q => ?_) (fun _ _ q => q)
      obtain ⟨rfl, rfl⟩ := q
      refine ⟨get_last, by rw [h1]; simp; omega, ?_, ?_⟩
      · rw [h1, List.range_succ]; simp
      · rw [set_last]
    | exn c Γ1 L1 => rw [hg] at s; exact s.elim
    | ret _ _ => rw [hg] at s; exact s.elim
    | brk _ _ => rw [hg] at s; exact s.elim
    | ct _ _ => rw [hg] at s; exact s.elim
    | stuck => rw [hg] at s; exact s.elim
  · obtain ⟨h1, rfl⟩ := h
    rw [h1]; exact hn
/-! ## the functions of polynomials -/
theorem fn_part_at_eq' (L : Lh) (ps : List Rat) (k : Nat) {i : Int} (hi : i = (k : Int)) : fn_part_at [pol ps, .int i] L = .val (fr (at0 ps k)) L := by subst hi; exact fn_part_at_eq L ps k
theorem lean_loc {L : Lh} {ps : List Rat} {n : Nat} (h : L[n]? = some (.lst (ps.map fr))) : fn_lean [.loc n] L = .val (pol (trim ps)) L := fn_lean_eq (.lst h)
theorem fn_sum_of_eq {a b : List Rat} (L : Lh) (h1 : FitP a) (h2 : FitP b) (hl : a.length ≤ 1000) (hl2 : b.length ≤ 1000) : fn_sum_of [pol a, pol b] L = .val (pol (psum a b)) L := by
  apply wpR.eq
  unfold fn_sum_of d_sum_of
  refine wp_run rfl ?_
  have hmx : (if a.length < b.length then (b.length : Int) else (a.length : Int)) = ((max a.length b.length : Nat) : Int) := by split <;> omega
  have hm : max a.length b.length ≤ 1000000 := by omega
  simp [-List.map_map, hmx, hm]
  refine wp_lcMap (fun k => fr (at0 a k + at0 b k)) (by simp; omega) (fun _ => trivial) (fun i hi acc => ?_) ?_
  · simp [fn_part_at_eq, fn_plus_eq _ (h1.at0 i) (h2.at0 i)]
  · have ln := lean_loc (L := L ++ [.lst ((List.range (max a.length b.length)).map fun k => fr (at0 a k + at0 b k))]) (ps := (List.range (max a.length b.length)).map fun k => at0 a k + at0 b k) (n := L.length) (by simp)
    simp [ln, psum]
def pscale (a : List Rat) (g : Rat) : List Rat := trim (a.map (· * g))
theorem fn_times_all_eq {a : List Rat} {g : Rat} (L : Lh) (h1 : FitP a) (h2 : Fit g) (hl : a.length ≤ 1000) : fn_times_all [pol a, fr g] L = .val (pol (pscale a g)) L := by
  apply wpR.eq
  unfold fn_times_all d_times_all
  refine wp_run rfl ?_
  simp
  refine wp_lcMap (fun k => fr (at0 a k * g)) (by simp; omega) (fun _ => trivial) (fun i hi acc => ?_) ?_
  · have hi' : i < a.length := by simpa using hi
    have e := fn_times_eq (L ++ [.lst acc]) (h1.at0 i) h2
    rw [at0_lt hi'] at e
    simp [at0_lt hi', e]
  · have e2 : (List.range a.length).map (fun k => fr (at0 a k * g)) = (a.map (· * g)).map fr := by
      refine List.ext_getElem (by simp) fun i h1 h2 => ?_
      have hi' : i < a.length := by simpa using h1
      simp [at0_lt hi']
    have ln := lean_loc (L := L ++ [.lst ((a.map (· * g)).map fr)]) (ps := a.map (· * g)) (n := L.length) (by simp)
    simp [-List.map_map, e2, ln, pscale]
theorem ev_sz {n m k : Nat} {ps : List Rat} {x : Rat} (h1 : SzP n ps) (h2 : Sz m x) (hk : ps.length ≤ k) : Sz (k * (n + m + 2) + 1) (ev ps x) := by
  induction ps generalizing k with
  | nil => rw [ev_nil]; exact sz0.mono (by omega)
  | cons p ps ih =>
    obtain ⟨k, rfl⟩ : ∃ j, k = j + 1 := ⟨k - 1, by simp at hk; omega⟩
    have := ih (k := k) (fun q hq => h1 q (by simp [hq])) (by simpa using hk)
    rw [ev_cons, Nat.succ_mul]
    exact ((this.mul h2).add (h1 p (by simp))).mono (by omega)
theorem mul_le {a b c : Nat} (h : a ≤ b) : a * c ≤ b * c := Nat.mul_le_mul h (Nat.le_refl _)
theorem fn_worth_eq {n m : Nat} {ps : List Rat} {x : Rat} (L : Lh) (h1 : SzP n ps) (h2 : Sz m x) (hk : (ps.length + 1) * (n + m + 2) + 1 ≤ LIM) : fn_worth [pol ps, fr x] L = .val (fr (ev ps x)) L := by
  apply wpR.eq
  unfold fn_worth d_worth
  refine wp_run rfl ?_
  simp [k0]
  refine wp_forN (fun i Γ L' => L' = L ∧ ∃ v, Γ = [some (pol ps), some (fr x), some (fr (ev (ps.drop (ps.length - i)) x)), v]) ⟨rfl, _, by simp; rfl⟩ (fun _ _ _ _ _ => trivial) (fun i hi Γ L' h => ?_) (fun Γ L' h => ?_)
  · obtain ⟨rfl, v, rfl⟩ := h
    have hi' : i < ps.length := by simpa using hi
    have s1 : Sz (ps.length * (n + m + 2) + 1) (ev (ps.drop (ps.length - i)) x) := ev_sz (fun p hp => h1 p (List.mem_of_mem_drop hp)) h2 (by simp)
    have hp : Sz n (ps[ps.length - 1 - i]'(by omega)) := h1 _ (List.getElem_mem _)
    rw [Nat.succ_mul] at hk
    have e1 := fn_times_eq L' (Fit.of s1 (by omega)) (Fit.of h2 (by omega))
    have e2 := fn_plus_eq L' (Fit.of (s1.mul h2) (by omega)) (Fit.of hp (by omega))
    have e3 : ev (ps.drop (ps.length - (i + 1))) x = ev (ps.drop (ps.length - i)) x * x + ps[ps.length - 1 - i]'(by omega) := by
      have : ps.length - (i + 1) < ps.length := by omega
      have e : ps.length - (i + 1) = ps.length - 1 - i := by omega
      rw [List.drop_eq_getElem_cons this, ev_cons, show ps.length - (i + 1) + 1 = ps.length - i by omega]
      simp only [e]
    simp [e1, e2, e3]
  · obtain ⟨rfl, v, rfl⟩ := h
    simp
/-! ## products -/
def addAt (f : List Rat) (n : Nat) (v : Rat) : List Rat := f.set n (at0 f n + v)
@[simp] theorem addAt_len (f : List Rat) (n : Nat) (v : Rat) : (addAt f n v).length = f.length := by simp [addAt]
theorem at0_addAt (f : List Rat) {n : Nat} (v : Rat) (i : Nat) (h : n < f.length) : at0 (addAt f n v) i = if i = n then at0 f n + v else at0 f i := by
  by_cases e : i = n
  · subst e; rw [if_pos rfl]; unfold addAt; rw [at0_lt (by simpa using h)]; simp
  · rw [if_neg e]; unfold addAt at0; simp [List.getElem?_set, Ne.symm e]
def rowK (a b : List Rat) (j k : Nat) (f : List Rat) : List Rat := (List.range k).foldl (fun f k => addAt f (j + k) (at0 a j * at0 b k)) f
def rowsJ (a b : List Rat) (j : Nat) : List Rat := (List.range j).foldl (fun f j => rowK a b j b.length f) (List.replicate (a.length + b.length) 0)
def pmul (a b : List Rat) : List Rat := trim (rowsJ a b a.length)
theorem rowK_succ (a b : List Rat) (j k : Nat) (f : List Rat) : rowK a b j (k + 1) f = addAt (rowK a b j k f) (j + k) (at0 a j * at0 b k) := by
  unfold rowK; rw [List.range_succ, List.foldl_append]; rfl
@[simp] theorem rowK_zero (a b : List Rat) (j : Nat) (f : List Rat) : rowK a b j 0 f = f := rfl
theorem rowsJ_succ (a b : List Rat) (j : Nat) : rowsJ a b (j + 1) = rowK a b j b.length (rowsJ a b j) := by
  unfold rowsJ; rw [List.range_succ, List.foldl_append]; rfl
@[simp] theorem rowsJ_zero (a b : List Rat) : rowsJ a b 0 = List.replicate (a.length + b.length) 0 := rfl
@[simp] theorem rowK_len (a b : List Rat) (j k : Nat) (f : List Rat) : (rowK a b j k f).length = f.length := by
  induction k with
  | zero => rfl
  | succ k ih => rw [rowK_succ, addAt_len, ih]
@[simp] theorem rowsJ_len (a b : List Rat) (j : Nat) : (rowsJ a b j).length = a.length + b.length := by
  induction j with
  | zero => simp
  | succ j ih => rw [rowsJ_succ, rowK_len, ih]
theorem rowK_sz {B s : Nat} {a b f : List Rat} {j : Nat} (hf : j + b.length ≤ f.length) (h0 : ∀ i, Sz s (at0 f i)) (hv : ∀ k, Sz B (at0 a j * at0 b k)) : ∀ k, k ≤ b.length → ∀ i, Sz (if i < j + k then s + B + 1 else s) (at0 (rowK a b j k f) i)
  | 0, _, i => (h0 i).mono (by split <;> omega)
  | k + 1, hk, i => by
    have ih := rowK_sz hf h0 hv k (by omega)
    rw [rowK_succ, at0_addAt _ _ _ (by rw [rowK_len]; omega)]
    by_cases e : i = j + k
    · rw [if_pos e, if_pos (by omega)]
      have := (ih (j + k)).add (hv k)
      rw [if_neg (by omega)] at this
      exact this
    · rw [if_neg e]
      exact (ih i).mono (by split <;> split <;> omega)
theorem rowsJ_sz {B : Nat} {a b : List Rat} (hv : ∀ j k, Sz B (at0 a j * at0 b k)) : ∀ j, j ≤ a.length → ∀ i, Sz (j * (B + 1) + 1) (at0 (rowsJ a b j) i)
  | 0, _, i => by
    have : at0 (rowsJ a b 0) i = 0 := by
      by_cases h : i < (rowsJ a b 0).length
      · rw [at0_lt h]; simp
      · exact at0_ge (by omega)
    rw [this]; exact sz0.mono (by omega)
  | j + 1, h, i => by
    rw [rowsJ_succ]
    refine (rowK_sz (s := j * (B + 1) + 1) (B := B) (by simp; omega) (rowsJ_sz hv j (by omega)) (fun k => hv j k) b.length (Nat.le_refl _) i).mono ?_
    rw [Nat.succ_mul]; split <;> omega
theorem SzP.trim {n : Nat} {ps : List Rat} (h : SzP n ps) : SzP n (G.trim ps) := fun p hp => h p (mem_trim hp)
theorem SzP.of_at {n : Nat} {ps : List Rat} (h : ∀ i, Sz n (at0 ps i)) : SzP n ps := fun p hp => by
  obtain ⟨i, hi, rfl⟩ := List.mem_iff_getElem.mp hp
  rw [← at0_lt hi]; exact h i
theorem SzP.pmul {n m k : Nat} {a b : List Rat} (h1 : SzP n a) (h2 : SzP m b) (hk : a.length ≤ k) : SzP (k * (n + m + 3) + 1) (pmul a b) := by
  refine SzP.trim (SzP.of_at fun i => ?_)
  refine (rowsJ_sz (B := n + m + 2) (a := a) (b := b) (fun j k => ((sz_at0 h1 j).mul (sz_at0 h2 k)).mono (by omega)) a.length (Nat.le_refl _) i).mono ?_
  show a.length * (n + m + 3) + 1 ≤ _
  have := Nat.mul_le_mul hk (Nat.le_refl (n + m + 3))
  omega
theorem SzP.psum {n m : Nat} {a b : List Rat} (h1 : SzP n a) (h2 : SzP m b) : SzP (n + m + 3) (psum a b) := by
  refine SzP.trim fun p hp => ?_
  obtain ⟨k, _, rfl⟩ := List.mem_map.mp hp
  exact ((sz_at0 h1 k).add (sz_at0 h2 k)).mono (by omega)
theorem SzP.pscale {n m : Nat} {a : List Rat} {g : Rat} (h1 : SzP n a) (h2 : Sz m g) : SzP (n + m) (pscale a g) := by
  refine SzP.trim fun p hp => ?_
  obtain ⟨q, hq, rfl⟩ := List.mem_map.mp hp
  exact (h1 q hq).mul h2
theorem pmul_len (a b : List Rat) : (pmul a b).length ≤ a.length + b.length := by
  have := trim_len (rowsJ a b a.length)
  rw [rowsJ_len] at this; exact this
theorem repl_frs (n : Nat) : (List.replicate n [fr 0]).flatten = (List.replicate n (0 : Rat)).map fr := by
  induction n with
  | zero => rfl
  | succ n ih => rw [List.replicate_succ, List.flatten_cons, ih, List.replicate_succ]; rfl
theorem fMul_loc {L : Lh} {n k : Nat} {i : Int} {xs : List D} (h : L[n]? = some (.lst xs)) (hi : i = (k : Int)) (hk : k ≤ 1000) (hl : xs.length ≤ 100) : fMul (.loc n) (.int i) L = .val (.loc L.length) (L ++ [.lst (List.replicate k xs).flatten]) := by
  subst hi
  have : xs.length * (k : Int).toNat ≤ 100000 := by
    have := Nat.mul_le_mul hl hk
    simpa using this
  simp only [fMul, h]
  rw [if_pos ⟨by omega, by omega, this⟩]; simp
theorem fn_product_eq {n m : Nat} {a b : List Rat} (L : Lh) (h1 : SzP n a) (h2 : SzP m b) (hk : (a.length + 1) * (n + m + 3) + 2 ≤ LIM) (hla : a.length ≤ 100) (hlb : b.length ≤ 100) :
    fn_product [pol a, pol b] L = .val (pol (pmul a b)) L := by
  have hv : ∀ j k, Sz (n + m + 2) (at0 a j * at0 b k) := fun j k => ((sz_at0 h1 j).mul (sz_at0 h2 k)).mono (by omega)
  apply wpR.eq
  unfold fn_product d_product
  refine wp_run rfl ?_
  generalize hL0 : L ++ [Cell.lst [fr 0]] = L0
  have hg0 : L0[L.length]? = some (.lst [fr 0]) := by rw [← hL0]; simp
  simp [k0, -fMul, hL0]
  rw [fMul_loc (k := a.length + b.length) hg0 (by omega) (by omega) (by simp), repl_frs]
  simp [-List.map_replicate, -fAdd]
  refine wp_forN (fun j Γ L' => (∃ v3 v4 v5 v6, Γ = [some (pol a), some (pol b), some (.loc L0.length), v3, v4, v5, v6]) ∧ L' = L0 ++ [.lst ((rowsJ a b j).map fr)]) ⟨⟨_, _, _, _, rfl⟩, by simp⟩ (fun _ _ _ _ _ => trivial) (fun j hj Γ L' h => ?_) (fun Γ L' h => ?_)
  · obtain ⟨⟨v3, v4, v5, v6, rfl⟩, rfl⟩ := h
    have hj' : j < a.length := by simpa using hj
    simp [-fAdd, ← at0_lt hj']
    refine wp_forN (fun k Γ L' => (∃ v5 v6, Γ = [some (pol a), some (pol b), some (.loc L0.length), some (.int j), some (fr (at0 a j)), v5, v6]) ∧ L' = L0 ++ [.lst ((rowK a b j k (rowsJ a b j)).map fr)]) ⟨⟨_, _, rfl⟩, by simp⟩ (fun _ _ _ _ _ => trivial) (fun k hk' Γ L' h => ?_) (fun Γ L' h => ?_)
    · obtain ⟨⟨v5, v6, rfl⟩, rfl⟩ := h
      have hkb : k < b.length := by simpa using hk'
      have s1 : Sz (if j + k < j + k then j * (n + m + 3) + 1 + (n + m + 2) + 1 else j * (n + m + 3) + 1) _ := rowK_sz (B := n + m + 2) (a := a) (b := b) (j := j) (f := rowsJ a b j) (by simp; omega) (rowsJ_sz hv j (by omega)) (fun k => hv j k) k (by omega) (j + k)
      have hm := Nat.mul_le_mul (show j ≤ a.length by omega) (Nat.le_refl (n + m + 3))
      rw [Nat.succ_mul] at hk
      have z1 := fn_times_eq (L0 ++ [.lst ((rowK a b j k (rowsJ a b j)).map fr)]) (Fit.of (sz_at0 h1 j) (by omega)) (Fit.of (sz_at0 h2 k) (by omega))
      have z2 := fn_plus_eq (L0 ++ [.lst ((rowK a b j k (rowsJ a b j)).map fr)]) (Fit.of s1 (by split <;> omega)) (Fit.of (hv j k) (by omega))
      have z3 := fIx_frs (L := L0 ++ [.lst ((rowK a b j k (rowsJ a b j)).map fr)]) (n := L0.length) (i := (j : Int) + k) (k := j + k) (ps := rowK a b j k (rowsJ a b j)) (by simp) (by omega) (by simp; omega)
      have z4 : ∀ d Γ, setR L0.length ((j : Int) + k) d Γ (L0 ++ [.lst ((rowK a b j k (rowsJ a b j)).map fr)]) = _ := fun d Γ => setR_eq (xs := (rowK a b j k (rowsJ a b j)).map fr) (j := j + k) (by simp) (by simp; exact ixN_nat (n := a.length + b.length) (i := j + k) (by omega))
      simp only [← at0_lt hkb, List.getElem_map, enumD_get, fAdd] at *
      simp [← at0_lt hkb, z3, z1, z2, z4, rowK_succ, addAt, -fIx]
    · obtain ⟨⟨v5, v6, rfl⟩, rfl⟩ := h
      simp [rowsJ_succ]
  · obtain ⟨⟨v3, v4, v5, v6, rfl⟩, rfl⟩ := h
    have ln := lean_loc (L := L0 ++ [.lst ((rowsJ a b a.length).map fr)]) (ps := rowsJ a b a.length) (n := L0.length) (by simp)
    simp [ln]
    rw [← hL0, List.append_assoc]
    simp [pmul]
def pslopeR (a : List Rat) : List Rat := (List.range (a.length - 1)).map fun k => at0 a (k + 1) * ((k + 1 : Nat) : Rat)
def pslope (a : List Rat) : List Rat := trim (pslopeR a)
theorem SzP.pslope {n : Nat} {a : List Rat} (h : SzP n a) (hl : a.length ≤ 1000) : SzP (n + 11) (pslope a) := by
  refine SzP.trim fun p hp => ?_
  obtain ⟨k, hk, rfl⟩ := List.mem_map.mp hp
  exact ((sz_at0 h (k + 1)).mul (sz_nat (n := 10) (by simp at hk; omega) (by omega))).mono (by omega)
theorem pslope_len (a : List Rat) : (pslope a).length ≤ a.length - 1 := by
  have h := trim_len (pslopeR a)
  have e : (pslopeR a).length = a.length - 1 := by simp [pslopeR]
  rw [e] at h; exact h
theorem sliceD_from {L : Lh} {n : Nat} {xs : List D} (k : Nat) (h : L[n]? = some (.lst xs)) : sliceD (.loc n) (some (k : Int)) none L = .val (.loc L.length) (L ++ [.lst (xs.drop k)]) := by
  rw [sliceD_loc h, cutD_drop]
theorem fn_slope_eq {a : List Rat} (L : Lh) (h1 : FitP a) (hl : a.length ≤ 1000) : fn_slope [pol a] L = .val (pol (pslope a)) L := by
  apply wpR.eq
  unfold fn_slope d_slope
  refine wp_run rfl ?_
  simp
  refine wp_lcMap (fun k => fr (at0 a k * ((k : Nat) : Rat))) (by simp; omega) (fun _ => trivial) (fun i hi acc => ?_) ?_
  · have hi' : i < a.length := by simpa using hi
    have sn : Fit ((i : Nat) : Rat) := Fit.of (sz_nat (n := 10) (by omega) (by omega)) (by decide)
    have z := fn_times_eq (L ++ [.lst acc]) (h1.at0 i) sn
    rw [fr_nat] at z
    simp [← at0_lt hi', z]
  · have hs := sliceD_from (L := L ++ [.lst ((List.range a.length).map fun k => fr (at0 a k * ((k : Nat) : Rat)))]) (n := L.length) 1 get_last
    have hd : ((List.range a.length).map fun k => fr (at0 a k * ((k : Nat) : Rat))).drop 1 = (pslopeR a).map fr := by
      refine List.ext_getElem (by simp [pslopeR]) fun i h1 h2 => ?_
      simp [pslopeR, Nat.add_comm]
    rw [hd] at hs
    have hs' : sliceD (.loc L.length) (some 1) none (L ++ [.lst ((List.range a.length).map fun k => fr (at0 a k * ((k : Nat) : Rat)))]) = _ := hs
    simp [-sliceD, hs']
    rw [lean_loc (ps := pslopeR a) (by simp)]
    simp [pslope]
/-! ## what sums and products are worth -/
/-- the first i parts of a worth -/
def evp (ps : List Rat) (x : Rat) : Nat → Rat
  | 0 => 0
  | i + 1 => evp ps x i + at0 ps i * x ^ i
theorem evp_cons (p : Rat) (ps : List Rat) (x : Rat) : ∀ i, evp (p :: ps) x (i + 1) = evp ps x i * x + p
  | 0 => by simp [evp, at0]
  | i + 1 => by
    rw [evp, evp_cons p ps x i, evp]
    have : at0 (p :: ps) (i + 1) = at0 ps i := rfl
    rw [this, Rat.pow_succ]; grind
theorem evp_len : ∀ (ps : List Rat) (x : Rat), evp ps x ps.length = ev ps x
  | [], _ => rfl
  | p :: ps, x => by rw [List.length_cons, evp_cons, evp_len ps x, ev_cons]
theorem evp_ge (ps : List Rat) (x : Rat) : ∀ k, evp ps x (ps.length + k) = ev ps x
  | 0 => evp_len ps x
  | k + 1 => by
    rw [← Nat.add_assoc, evp, evp_ge ps x k, at0_ge (by omega)]; grind
theorem evp_ge' {ps : List Rat} {x : Rat} {N : Nat} (h : ps.length ≤ N) : evp ps x N = ev ps x := by
  have := evp_ge ps x (N - ps.length)
  rwa [show ps.length + (N - ps.length) = N by omega] at this
theorem evp_congr {a b : List Rat} {x : Rat} : ∀ {N : Nat}, (∀ k, k < N → at0 a k = at0 b k) → evp a x N = evp b x N
  | 0, _ => rfl
  | N + 1, h => by rw [evp, evp, evp_congr fun k hk => h k (by omega), h N (by omega)]
theorem at0_map {f : Nat → Rat} {N k : Nat} (h : k < N) : at0 ((List.range N).map f) k = f k := by
  rw [at0_lt (by simpa using h)]; simp
theorem evp_add {a b c : List Rat} {x : Rat} : ∀ {N : Nat}, (∀ k, k < N → at0 c k = at0 a k + at0 b k) → evp c x N = evp a x N + evp b x N
  | 0, _ => by rw [evp, evp, evp]; grind
  | N + 1, h => by rw [evp, evp, evp, evp_add fun k hk => h k (by omega), h N (by omega)]; grind
theorem ev_psum (a b : List Rat) (x : Rat) : ev (psum a b) x = ev a x + ev b x := by
  unfold psum
  rw [ev_trim, ← evp_len, List.length_map, List.length_range, evp_add (a := a) (b := b) (fun k hk => at0_map hk), evp_ge' (by omega), evp_ge' (by omega)]
theorem evp_addAt {f : List Rat} {n : Nat} {v x : Rat} (hn : n < f.length) : ∀ {N : Nat}, evp (addAt f n v) x N = evp f x N + (if n < N then v * x ^ n else 0)
  | 0 => by rw [evp, evp, if_neg (by omega)]; grind
  | N + 1 => by
    rw [evp, evp, evp_addAt hn, at0_addAt _ _ _ hn]
    by_cases h1 : N = n
    · subst h1
      rw [if_pos rfl, if_neg (by omega), if_pos (by omega)]; grind
    · rw [if_neg h1]
      by_cases h2 : n < N
      · rw [if_pos h2, if_pos (by omega)]; grind
      · rw [if_neg h2, if_neg (by omega)]; grind
theorem rpow_add (x : Rat) (j : Nat) : ∀ k, x ^ (j + k) = x ^ j * x ^ k
  | 0 => by rw [Nat.add_zero, Rat.pow_zero]; grind
  | k + 1 => by rw [← Nat.add_assoc, Rat.pow_succ, Rat.pow_succ, rpow_add x j k]; grind
theorem evp_rowK {a b f : List Rat} {j N : Nat} {x : Rat} (hf : j + b.length ≤ f.length) (hN : f.length ≤ N) : ∀ k, k ≤ b.length → evp (rowK a b j k f) x N = evp f x N + at0 a j * x ^ j * evp b x k
  | 0, _ => by rw [rowK_zero, evp]; grind
  | k + 1, hk => by
    rw [rowK_succ, evp_addAt (by rw [rowK_len]; omega), evp_rowK hf hN k (by omega), if_pos (by omega), evp, rpow_add]; grind
theorem evp_zero (n : Nat) (x : Rat) : ∀ N, evp (List.replicate n 0) x N = 0
  | 0 => rfl
  | N + 1 => by
    have : at0 (List.replicate n (0 : Rat)) N = 0 := by
      by_cases h : N < n
      · rw [at0_lt (by simpa using h)]; simp
      · exact at0_ge (by simp; omega)
    rw [evp, evp_zero n x N, this]; grind
theorem evp_rowsJ {a b : List Rat} {x : Rat} : ∀ j, j ≤ a.length → evp (rowsJ a b j) x (a.length + b.length) = evp a x j * ev b x
  | 0, _ => by rw [rowsJ_zero, evp_zero]; simp [evp]
  | j + 1, h => by
    rw [rowsJ_succ, evp_rowK (by simp; omega) (by simp) b.length (Nat.le_refl _), evp_rowsJ j (by omega), evp_len, evp]; grind
theorem ev_pmul (a b : List Rat) (x : Rat) : ev (pmul a b) x = ev a x * ev b x := by
  unfold pmul
  rw [ev_trim, ← evp_len, rowsJ_len, evp_rowsJ a.length (Nat.le_refl _), evp_len]
theorem evp_scale {a c : List Rat} {g x : Rat} : ∀ {N : Nat}, (∀ k, k < N → at0 c k = at0 a k * g) → evp c x N = evp a x N * g
  | 0, _ => by simp [evp]
  | N + 1, h => by rw [evp, evp, evp_scale fun k hk => h k (by omega), h N (by omega)]; grind
theorem at0_mapR (f : Rat → Rat) (h0 : f 0 = 0) (a : List Rat) (k : Nat) : at0 (a.map f) k = f (at0 a k) := by
  by_cases h : k < a.length
  · rw [at0_lt (by simpa using h), at0_lt h]; simp
  · rw [at0_ge (by simp; omega), at0_ge (by omega), h0]
theorem ev_pscale (a : List Rat) (g x : Rat) : ev (pscale a g) x = ev a x * g := by
  unfold pscale
  rw [ev_trim, ← evp_len, List.length_map, evp_scale (a := a) (g := g) (fun k _ => at0_mapR _ (by simp) a k), evp_len]
/-! ## roots -/
def quot : List Rat → Rat → List Rat
  | [], _ => []
  | [_], _ => []
  | _ :: q :: r, a => ev (q :: r) a :: quot (q :: r) a
theorem quot_len : ∀ (ps : List Rat) (a : Rat), (quot ps a).length = ps.length - 1
  | [], _ => rfl
  | [_], _ => rfl
  | _ :: q :: r, a => by rw [quot, List.length_cons, quot_len (q :: r) a]; simp
theorem ev_quot : ∀ (ps : List Rat) (a x : Rat), ev ps x = (x - a) * ev (quot ps a) x + ev ps a
  | [], _, _ => by rw [quot, ev_nil, ev_nil]; grind
  | [p], a, x => by rw [quot, ev_nil, ev_cons, ev_cons, ev_nil, ev_nil]; grind
  | p :: q :: r, a, x => by
    have ih := ev_quot (q :: r) a x
    rw [quot, ev_cons p (q :: r) x, ev_cons p (q :: r) a, ev_cons (ev (q :: r) a), ih]; grind
theorem ev_roots : ∀ (xs : List Rat) (ps : List Rat), xs.Nodup → ps.length ≤ xs.length → (∀ x ∈ xs, ev ps x = 0) → ∀ x, ev ps x = 0
  | [], ps, _, hl, _, x => by
    obtain rfl : ps = [] := List.eq_nil_of_length_eq_zero (by simpa using hl)
    rfl
  | a :: xs, ps, hn, hl, h, x => by
    have ha := h a (by simp)
    rw [List.nodup_cons] at hn
    have ih := ev_roots xs (quot ps a) hn.2 (by rw [quot_len]; simp at hl; omega) (fun y hy => by
      have h1 := h y (by simp [hy])
      rw [ev_quot ps a y, ha] at h1
      have h2 : (y - a) * ev (quot ps a) y = 0 := by grind
      rcases Rat.mul_eq_zero.mp h2 with h2 | h2
      · exact absurd (show y = a by grind) (fun z => hn.1 (z ▸ hy))
      · exact h2)
    rw [ev_quot ps a x, ha, ih x]; grind
def nats (n : Nat) : List Rat := (List.range n).map fun k => ((k + 1 : Nat) : Rat)
theorem natR_inj {a b : Nat} (h : (a : Rat) = (b : Rat)) : a = b := by
  have : ((a : Int) : Rat) = ((b : Int) : Rat) := h
  have := Rat.intCast_inj.mp this
  omega
theorem nats_nodup (n : Nat) : (nats n).Nodup := by
  unfold nats
  refine List.Pairwise.map _ (fun a b hab z => hab ?_) List.nodup_range
  have := natR_inj z; omega
theorem ev_zero : ∀ (ps : List Rat), (∀ x, ev ps x = 0) → ∀ p ∈ ps, p = 0
  | [], _, _, h => nomatch h
  | p :: ps, h, q, hq => by
    have h0 := h 0
    rw [ev_cons] at h0
    have hp : p = 0 := by grind
    have hz : ∀ x, x ≠ 0 → ev ps x = 0 := fun x hx => by
      have := h x
      rw [ev_cons, hp] at this
      have h2 : ev ps x * x = 0 := by grind
      rcases Rat.mul_eq_zero.mp h2 with h2 | h2
      · exact h2
      · exact absurd h2 hx
    have all := ev_roots (nats ps.length) ps (nats_nodup _) (by simp [nats]) (fun x hx => hz x (by
      obtain ⟨k, _, rfl⟩ := List.mem_map.mp hx
      exact natR_ne (by omega)))
    rcases List.mem_cons.mp hq with rfl | hq
    · exact hp
    · exact ev_zero ps all q hq
theorem at0_cons_zero (p : Rat) (ps : List Rat) : at0 (p :: ps) 0 = p := rfl
theorem at0_cons_succ (p : Rat) (ps : List Rat) (k : Nat) : at0 (p :: ps) (k + 1) = at0 ps k := rfl
theorem at0_nil (k : Nat) : at0 [] k = 0 := rfl
theorem mem_at0 {ps : List Rat} {p : Rat} (h : p ∈ ps) : ∃ k, p = at0 ps k := by
  obtain ⟨k, hk, e⟩ := List.mem_iff_getElem.mp h
  exact ⟨k, by rw [at0_lt hk, e]⟩
theorem trim_ext : ∀ (ps qs : List Rat), (∀ k, at0 ps k = at0 qs k) → trim ps = trim qs
  | [], qs, h => by
    rw [trim_zero (ps := qs) fun p hp => by
      obtain ⟨k, rfl⟩ := mem_at0 hp
      rw [← h]; rfl]
    rfl
  | p :: ps, [], h => by
    rw [trim_zero (ps := p :: ps) fun q hq => by
      obtain ⟨k, rfl⟩ := mem_at0 hq
      rw [h]; rfl]
    rfl
  | p :: ps, q :: qs, h => by
    have h0 : p = q := h 0
    have ih := trim_ext ps qs fun k => h (k + 1)
    rw [trim, trim, ih, h0]
theorem ev_ext {ps qs : List Rat} (h : ∀ x, ev ps x = ev qs x) : trim ps = trim qs := by
  let N := max ps.length qs.length
  let ds : List Rat := (List.range N).map fun k => at0 ps k + at0 (qs.map (- ·)) k
  have hd : ∀ x, ev ds x = 0 := fun x => by
    have h1 : (qs.map (- ·)).length = qs.length := by simp
    have h2 : evp (qs.map (- ·)) x N = evp qs x N * (-1) := evp_scale fun k _ => by rw [at0_mapR _ (by simp)]; grind
    rw [← evp_len, show ds.length = N by simp [ds], evp_add (a := ps) (b := qs.map (- ·)) (fun k hk => at0_map hk), h2, evp_ge' (by omega), evp_ge' (by omega), h x]; grind
  have hz := ev_zero ds hd
  refine trim_ext ps qs fun k => ?_
  by_cases hk : k < N
  · have h1 := hz (at0 ds k) (by rw [at0_lt (by simp [ds]; exact hk)]; exact List.getElem_mem _)
    rw [show at0 ds k = at0 ps k + at0 (qs.map (- ·)) k from at0_map hk, at0_mapR _ (by simp)] at h1
    grind
  · rw [at0_ge (by omega), at0_ge (by omega)]
/-- .. enough to know it at so many places -/
theorem ev_ext_at {ps qs xs : List Rat} (hn : xs.Nodup) (h1 : ps.length ≤ xs.length) (h2 : qs.length ≤ xs.length) (h : ∀ x ∈ xs, ev ps x = ev qs x) : trim ps = trim qs := by
  refine ev_ext fun x => ?_
  let N := max ps.length qs.length
  let ds : List Rat := (List.range N).map fun k => at0 ps k + at0 (qs.map (- ·)) k
  have hd : ∀ x, ev ds x = ev ps x - ev qs x := fun x => by
    have h1 : (qs.map (- ·)).length = qs.length := by simp
    have h2 : evp (qs.map (- ·)) x N = evp qs x N * (-1) := evp_scale fun k _ => by rw [at0_mapR _ (by simp)]; grind
    rw [← evp_len, show ds.length = N by simp [ds], evp_add (a := ps) (b := qs.map (- ·)) (fun k hk => at0_map hk), h2, evp_ge' (by omega), evp_ge' (by omega)]; grind
  have := ev_roots xs ds hn (by simp [ds, N]; omega) (fun y hy => by rw [hd, h y hy]; grind) x
  rw [hd] at this
  grind
/-! ## cells that grow: only the pot of the old ones may change -/
structure Grow (n : Nat) (L L' : Lh) : Prop where
  le : L.length ≤ L'.length
  at_ : ∀ m, m < L.length → m ≠ n → L'[m]? = L[m]?
theorem Grow.refl (n : Nat) (L : Lh) : Grow n L L := ⟨Nat.le_refl _, fun _ _ _ => rfl⟩
theorem Grow.trans {n : Nat} {L L1 L2 : Lh} (a : Grow n L L1) (b : Grow n L1 L2) : Grow n L L2 := ⟨Nat.le_trans a.le b.le, fun m h h2 => (b.at_ m (Nat.lt_of_lt_of_le h a.le) h2).trans (a.at_ m h h2)⟩
theorem But.grow {n : Nat} {L L1 : Lh} (a : But n L L1) : Grow n L L1 := ⟨Nat.le_of_eq a.len.symm, fun m _ h => a.at_ m h⟩
theorem Grow.app {n : Nat} {L X : Lh} : Grow n L (L ++ X) := ⟨by simp, fun m h _ => List.getElem?_append_left h⟩
theorem Grow.set {n m : Nat} {L L1 : Lh} {c : Cell} (a : Grow n L L1) (h : L.length ≤ m) : Grow n L (L1.set m c) := ⟨by simpa using a.le, fun k hk h2 => by
  rw [List.getElem?_set_ne (by omega)]; exact a.at_ k hk h2⟩
theorem Grow.keep {n m : Nat} {L L' : Lh} {c : Cell} (b : Grow n L L') (h : L[m]? = some c) (hm : m ≠ n) : L'[m]? = some c := by
  rw [b.at_ m (List.getElem?_eq_some_iff.mp h).1 hm]; exact h
theorem lt_of_get {L : Lh} {m : Nat} {c : Cell} (h : L[m]? = some c) : m < L.length := (List.getElem?_eq_some_iff.mp h).1
theorem PotAt.lt {n : Nat} {L : Lh} (h : PotAt L n) : n < L.length := let ⟨_, _, h, _⟩ := h; (List.getElem?_eq_some_iff.mp h).1
theorem PotAt.app {n : Nat} {L X : Lh} (h : PotAt L n) : PotAt (L ++ X) n := let ⟨p, q, h1, h2⟩ := h; ⟨p, q, by rw [List.getElem?_append_left (List.getElem?_eq_some_iff.mp h1).1]; exact h1, h2⟩
theorem PotAt.set {n m : Nat} {L : Lh} {c : Cell} (h : PotAt L n) (hm : m ≠ n) : PotAt (L.set m c) n := let ⟨p, q, h1, h2⟩ := h; ⟨p, q, by rw [List.getElem?_set_ne hm]; exact h1, h2⟩
theorem get_app {L X : Lh} {m : Nat} {c : Cell} (h : L[m]? = some c) : (L ++ X)[m]? = some c := by
  rw [List.getElem?_append_left (lt_of_get h)]; exact h
/-- an answer without lists of its own, cells changed -/
theorem wp_truncG {n : Nat} {L L' : Lh} {d : D} {Q : D → Lh → Prop} {E : Str → Lh → Prop} (hd : closed L.length d = true) (g : Grow n L L') (p : PotAt L' n) (hn : n < L.length) (h : ∀ L'', Grow n L L'' → PotAt L'' n → Q d L'') : wpR (trunc L d L') Q E := by
  refine wp_trunc hd (fun e => h L (Grow.refl _ _) ?_) (h L' g p)
  obtain ⟨a, b, h1, h2⟩ := p
  refine ⟨a, b, ?_, h2⟩
  rw [← e, List.getElem?_take, if_pos hn]; exact h1
theorem wp_truncGL {n m : Nat} {L L' : Lh} {xs : List D} {Q : D → Lh → Prop} {E : Str → Lh → Prop} (hm : L.length ≤ m) (hx : L'[m]? = some (.lst xs)) (hc : closeds L.length xs = true) (g : Grow n L L') (p : PotAt L' n) (hn : n < L.length)
    (h : ∀ m' L'', L.length ≤ m' → L''[m']? = some (.lst xs) → Grow n L L'' → PotAt L'' n → Q (.loc m') L'') : wpR (trunc L (.loc m) L') Q E := by
  refine wp_truncL hm hx hc (fun e => h _ _ (Nat.le_refl _) get_last Grow.app (PotAt.app ?_)) (h m L' hm hx g p)
  obtain ⟨a, b, h1, h2⟩ := p
  refine ⟨a, b, ?_, h2⟩
  rw [← e, List.getElem?_take, if_pos hn]; exact h1
/-- a comprehension that draws; P i y: what the answer of turn i is -/
theorem wp_lcDraw {chk : Lh → Prop} {P : Nat → D → Prop} {g : Tg3} {e : E3} {Γ0 : G3} {n : Nat} {xs : List D} {Q : D → Lh → Prop} {E : Str → Lh → Prop} {L : Lh} (hp : PotAt L n) (hl : xs.length ≤ 100000) (hc : ∀ L', Grow n L L' → chk L')
    (step : ∀ i (h : i < xs.length) ys L1, ys.length = i → (∀ k (h : k < ys.length), P k ys[k]) → L.length < L1.length → L1[L.length]? = some (.lst ys) → Grow n L L1 → PotAt L1 n →
      wpS (g xs[i] Γ0 L1) ⟨fun Γ1 L1' => wpR (e Γ1 L1') (fun y L2 => P i y ∧ Grow n L1 L2 ∧ PotAt L2 n) noE, fun _ _ => False, fun _ _ => False, fun _ _ => False, fun _ _ _ => False⟩)
    (hn : ∀ ys L', ys.length = xs.length → (∀ k (h : k < ys.length), P k ys[k]) → L'[L.length]? = some (.lst ys) → Grow n L L' → PotAt L' n → Q (.loc L.length) L') : wpR (lcL chk g tTrue e Γ0 L.length xs (L ++ [.lst []])) Q E := by
  have hne : L.length ≠ n := by have := hp.lt; omega
  refine wp_lc (fun i ys L' => ys.length = i ∧ (∀ k (h : k < ys.length), P k ys[k]) ∧ Grow n L L' ∧ PotAt L' n) ⟨rfl, fun k h => absurd h (by simp), Grow.app, hp.app⟩ get_last (fun _ _ L' _ _ h => hc L' h.2.2.1) (fun i hi ys L1 hL h => ?_) (fun ys L' hL h => hn ys L' h.1 h.2.1 hL h.2.2.1 h.2.2.2)
  obtain ⟨h1, h2, h3, h4⟩ := h
  have s := step i hi ys L1 h1 h2 (lt_of_get hL) hL h3 h4
  cases hg : g xs[i] Γ0 L1 with
  | nx Γ1 L1' =>
    rw [hg] at s
    simp only [wpS_nx] at s
    simp only [wpS_nx, tTrue, wpR_val, if_true]
    refine s.mono (fun y L2 q => ?_) (fun _ _ q => q)
    obtain ⟨q1, q2, q3⟩ := q
    refine ⟨q2.keep hL hne, by omega, by simp [h1], fun k hk => ?_, (h3.trans q2).set (Nat.le_refl _), q3.set hne⟩
    by_cases e : k < ys.length
    · rw [List.getElem_append_left e]; exact h2 k e
    · have e2 : k = ys.length := by simp at hk; omega
      have e3 : (ys ++ [y])[k] = y := by simp [e2]
      rw [e3, e2, h1]; exact q1
  | exn c Γ1 L1 => rw [hg] at s; exact s.elim
  | ret _ _ => rw [hg] at s; exact s.elim
  | brk _ _ => rw [hg] at s; exact s.elim
  | ct _ _ => rw [hg] at s; exact s.elim
  | stuck => rw [hg] at s; exact s.elim
theorem frs_of {Q : Rat → Prop} : ∀ {ys : List D}, (∀ k (h : k < ys.length), ∃ q, ys[k] = fr q ∧ Q q) → ∃ ps : List Rat, ys = ps.map fr ∧ ∀ p ∈ ps, Q p
  | [], _ => ⟨[], rfl, fun _ h => nomatch h⟩
  | y :: ys, h => by
    obtain ⟨q, hy, hq⟩ := h 0 (by simp)
    obtain ⟨ps, rfl, hp⟩ := frs_of (ys := ys) fun k hk => h (k + 1) (by simpa using hk)
    refine ⟨q :: ps, by simpa using hy, ?_⟩
    simp only [List.mem_cons]
    rintro p (rfl | h)
    · exact hq
    · exact hp p h
theorem ixN_m1 (n : Nat) : L2.ixN (n + 1) (-1) = some n := by
  unfold L2.ixN
  simp
  omega
@[simp] theorem shaped_nil : SeqAt.shaped (.list []) = true := (rfl)
theorem atI_m1 {α : Type} (xs : List α) (d : α) : L2.atI (xs ++ [d]) (-1) = some d := by
  have h : L2.ixN (xs ++ [d]).length (-1) = some xs.length := by
    have h2 : (xs ++ [d]).length = xs.length + 1 := by simp
    rw [h2]; exact ixN_m1 _
  unfold L2.atI
  rw [h]; simp
theorem num_zero (q : Rat) : (q.num = 0) = (q = 0) := propext Rat.num_eq_zero
theorem take_snoc {ps : List Rat} {m : Nat} (h : m < ps.length) : ps.take (m + 1) = ps.take m ++ [ps[m]] := by rw [List.take_succ_eq_append_getElem h]
theorem trim_snoc {q : Rat} (h : q ≠ 0) : ∀ ps : List Rat, trim (ps ++ [q]) = ps ++ [q]
  | [] => by simp [trim, h]
  | c :: r => by
    rw [List.cons_append, trim, trim_snoc h r]
    cases r <;> rfl
theorem bls_map {α : Type} (f : α → Bool) : ∀ l : List α, blsD (l.map fun a => D.bl (f a)) = some (l.map f)
  | [] => rfl
  | x :: l => by
    have := bls_map f l
    unfold blsD at this ⊢
    exact opts_cons rfl this
theorem fAll_map {α : Type} (f : α → Bool) {l : List α} {n : Nat} {L : Lh} (h : L[n]? = some (.lst (l.map fun a => .bl (f a)))) : fAll [.loc n] L = .val (.bl (l.all f)) L := by
  simp [items_loc h, bls_map]
theorem fAny_map {α : Type} (f : α → Bool) {l : List α} {n : Nat} {L : Lh} (h : L[n]? = some (.lst (l.map fun a => .bl (f a)))) : fAny [.loc n] L = .val (.bl (l.any f)) L := by
  simp [items_loc h, bls_map]
theorem sliceD_pol {L : Lh} {ps : List Rat} {k : Nat} : sliceD (pol ps) (some (k : Int)) none L = .val (pol (ps.drop k)) L := by
  unfold pol; rw [sliceD_tup, cutD_drop, List.map_drop]
theorem exp1 {α : Type} {v : List α} {w : Nat} (h : v.length = w + 1) : ∃ a u, v = a :: u ∧ u.length = w := by
  cases v with
  | nil => simp at h
  | cons a u => exact ⟨a, u, rfl, by simpa using h⟩
theorem mPopAt0 {L : Lh} {n : Nat} {d : D} {r : List D} (h : L[n]? = some (.lst (d :: r))) : mPopAt (.loc n) [.int 0] L = .val d (L.set n (.lst r)) := by
  have e : seqIndex? 0 (d :: r).length = some 0 := by unfold seqIndex?; simp
  unfold mPopAt onL
  simp only [h, e]
  simp
theorem get_set_ne {L : Lh} {m n : Nat} {c d : Cell} (h : L[m]? = some c) (hm : n ≠ m) : (L.set n d)[m]? = some c := by
  rw [List.getElem?_set_ne hm]; exact h
theorem get_set {L : Lh} {n : Nat} {c d : Cell} (h : L[n]? = some c) : (L.set n d)[n]? = some d := List.getElem?_set_self (lt_of_get h)
/-- the cells that stood stand -/
def Pre (L L' : Lh) : Prop := L'.take L.length = L
theorem Pre.refl (L : Lh) : Pre L L := by unfold Pre; simp
theorem Pre.le {L L' : Lh} (h : Pre L L') : L.length ≤ L'.length := by
  unfold Pre at h
  have := congrArg List.length h
  rw [List.length_take] at this; omega
theorem Pre.app {L L' X : Lh} (h : Pre L L') : Pre L (L' ++ X) := by
  have := h.le
  unfold Pre at *
  rw [List.take_append_of_le_length this]; exact h
theorem Pre.set {L L' : Lh} {m : Nat} {c : Cell} (h : Pre L L') (hm : L.length ≤ m) : Pre L (L'.set m c) := by
  unfold Pre at *
  rw [List.take_set_of_le hm]; exact h
theorem Pre.new {L X : Lh} : Pre L (L ++ X) := (Pre.refl L).app
theorem Pre.trans {L L1 L2 : Lh} (a : Pre L L1) (b : Pre L1 L2) : Pre L L2 := by
  have := a.le
  unfold Pre at *
  rw [← b, List.take_take, Nat.min_eq_left this] at a; exact a
theorem Pre.get {L L' : Lh} {m : Nat} {c : Cell} (h : Pre L L') (hm : L[m]? = some c) : L'[m]? = some c := by
  have := lt_of_get hm
  unfold Pre at h
  rw [← h, List.getElem?_take, if_pos this] at hm; exact hm
theorem wp_truncP {L L' : Lh} {d : D} {Q : D → Lh → Prop} {E : Str → Lh → Prop} (h : Pre L L') (hd : closed L.length d = true) (hq : Q d L) : wpR (trunc L d L') Q E := by
  unfold Pre at h
  have : trunc L d L' = .val d L := by unfold trunc; rw [if_pos h, if_pos hd]
  rw [this]; exact hq
theorem wp_truncPL {L L' : Lh} {m : Nat} {xs : List D} {Q : D → Lh → Prop} {E : Str → Lh → Prop} (h : Pre L L') (hm : L.length ≤ m) (hx : L'[m]? = some (.lst xs)) (hc : closeds L.length xs = true) (hq : Q (.loc L.length) (L ++ [.lst xs])) : wpR (trunc L (.loc m) L') Q E := by
  rw [trunc_new h hm hx hc]; exact hq
theorem exq1 {α : Type} {v : List α} (h : v.length = 1) : ∃ a0, v = [a0] := match v, h with | [a0], _ => ⟨a0, rfl⟩
theorem exq2 {α : Type} {v : List α} (h : v.length = 2) : ∃ a0 a1, v = [a0, a1] := match v, h with | [a0, a1], _ => ⟨a0, a1, rfl⟩
theorem exq3 {α : Type} {v : List α} (h : v.length = 3) : ∃ a0 a1 a2, v = [a0, a1, a2] := match v, h with | [a0, a1, a2], _ => ⟨a0, a1, a2, rfl⟩
theorem exq4 {α : Type} {v : List α} (h : v.length = 4) : ∃ a0 a1 a2 a3, v = [a0, a1, a2, a3] := match v, h with | [a0, a1, a2, a3], _ => ⟨a0, a1, a2, a3, rfl⟩
theorem exq5 {α : Type} {v : List α} (h : v.length = 5) : ∃ a0 a1 a2 a3 a4, v = [a0, a1, a2, a3, a4] := match v, h with | [a0, a1, a2, a3, a4], _ => ⟨a0, a1, a2, a3, a4, rfl⟩
theorem exq6 {α : Type} {v : List α} (h : v.length = 6) : ∃ a0 a1 a2 a3 a4 a5, v = [a0, a1, a2, a3, a4, a5] := match v, h with | [a0, a1, a2, a3, a4, a5], _ => ⟨a0, a1, a2, a3, a4, a5, rfl⟩
theorem exq7 {α : Type} {v : List α} (h : v.length = 7) : ∃ a0 a1 a2 a3 a4 a5 a6, v = [a0, a1, a2, a3, a4, a5, a6] := match v, h with | [a0, a1, a2, a3, a4, a5, a6], _ => ⟨a0, a1, a2, a3, a4, a5, a6, rfl⟩
theorem exq8 {α : Type} {v : List α} (h : v.length = 8) : ∃ a0 a1 a2 a3 a4 a5 a6 a7, v = [a0, a1, a2, a3, a4, a5, a6, a7] := match v, h with | [a0, a1, a2, a3, a4, a5, a6, a7], _ => ⟨a0, a1, a2, a3, a4, a5, a6, a7, rfl⟩
theorem exq9 {α : Type} {v : List α} (h : v.length = 9) : ∃ a0 a1 a2 a3 a4 a5 a6 a7 a8, v = [a0, a1, a2, a3, a4, a5, a6, a7, a8] := match v, h with | [a0, a1, a2, a3, a4, a5, a6, a7, a8], _ => ⟨a0, a1, a2, a3, a4, a5, a6, a7, a8, rfl⟩
theorem exq10 {α : Type} {v : List α} (h : v.length = 10) : ∃ a0 a1 a2 a3 a4 a5 a6 a7 a8 a9, v = [a0, a1, a2, a3, a4, a5, a6, a7, a8, a9] := match v, h with | [a0, a1, a2, a3, a4, a5, a6, a7, a8, a9], _ => ⟨a0, a1, a2, a3, a4, a5, a6, a7, a8, a9, rfl⟩
theorem exq11 {α : Type} {v : List α} (h : v.length = 11) : ∃ a0 a1 a2 a3 a4 a5 a6 a7 a8 a9 a10, v = [a0, a1, a2, a3, a4, a5, a6, a7, a8, a9, a10] := match v, h with | [a0, a1, a2, a3, a4, a5, a6, a7, a8, a9, a10], _ => ⟨a0, a1, a2, a3, a4, a5, a6, a7, a8, a9, a10, rfl⟩
theorem exq12 {α : Type} {v : List α} (h : v.length = 12) : ∃ a0 a1 a2 a3 a4 a5 a6 a7 a8 a9 a10 a11, v = [a0, a1, a2, a3, a4, a5, a6, a7, a8, a9, a10, a11] := match v, h with | [a0, a1, a2, a3, a4, a5, a6, a7, a8, a9, a10, a11], _ => ⟨a0, a1, a2, a3, a4, a5, a6, a7, a8, a9, a10, a11, rfl⟩
theorem exq13 {α : Type} {v : List α} (h : v.length = 13) : ∃ a0 a1 a2 a3 a4 a5 a6 a7 a8 a9 a10 a11 a12, v = [a0, a1, a2, a3, a4, a5, a6, a7, a8, a9, a10, a11, a12] := match v, h with | [a0, a1, a2, a3, a4, a5, a6, a7, a8, a9, a10, a11, a12], _ => ⟨a0, a1, a2, a3, a4, a5, a6, a7, a8, a9, a10, a11, a12, rfl⟩
theorem exq14 {α : Type} {v : List α} (h : v.length = 14) : ∃ a0 a1 a2 a3 a4 a5 a6 a7 a8 a9 a10 a11 a12 a13, v = [a0, a1, a2, a3, a4, a5, a6, a7, a8, a9, a10, a11, a12, a13] := match v, h with | [a0, a1, a2, a3, a4, a5, a6, a7, a8, a9, a10, a11, a12, a13], _ => ⟨a0, a1, a2, a3, a4, a5, a6, a7, a8, a9, a10, a11, a12, a13, rfl⟩
theorem exq15 {α : Type} {v : List α} (h : v.length = 15) : ∃ a0 a1 a2 a3 a4 a5 a6 a7 a8 a9 a10 a11 a12 a13 a14, v = [a0, a1, a2, a3, a4, a5, a6, a7, a8, a9, a10, a11, a12, a13, a14] := match v, h with | [a0, a1, a2, a3, a4, a5, a6, a7, a8, a9, a10, a11, a12, a13, a14], _ => ⟨a0, a1, a2, a3, a4, a5, a6, a7, a8, a9, a10, a11, a12, a13, a14, rfl⟩
theorem exq16 {α : Type} {v : List α} (h : v.length = 16) : ∃ a0 a1 a2 a3 a4 a5 a6 a7 a8 a9 a10 a11 a12 a13 a14 a15, v = [a0, a1, a2, a3, a4, a5, a6, a7, a8, a9, a10, a11, a12, a13, a14, a15] := match v, h with | [a0, a1, a2, a3, a4, a5, a6, a7, a8, a9, a10, a11, a12, a13, a14, a15], _ => ⟨a0, a1, a2, a3, a4, a5, a6, a7, a8, a9, a10, a11, a12, a13, a14, a15, rfl⟩
theorem exq17 {α : Type} {v : List α} (h : v.length = 17) : ∃ a0 a1 a2 a3 a4 a5 a6 a7 a8 a9 a10 a11 a12 a13 a14 a15 a16, v = [a0, a1, a2, a3, a4, a5, a6, a7, a8, a9, a10, a11, a12, a13, a14, a15, a16] := match v, h with | [a0, a1, a2, a3, a4, a5, a6, a7, a8, a9, a10, a11, a12, a13, a14, a15, a16], _ => ⟨a0, a1, a2, a3, a4, a5, a6, a7, a8, a9, a10, a11, a12, a13, a14, a15, a16, rfl⟩
theorem exq18 {α : Type} {v : List α} (h : v.length = 18) : ∃ a0 a1 a2 a3 a4 a5 a6 a7 a8 a9 a10 a11 a12 a13 a14 a15 a16 a17, v = [a0, a1, a2, a3, a4, a5, a6, a7, a8, a9, a10, a11, a12, a13, a14, a15, a16, a17] := match v, h with | [a0, a1, a2, a3, a4, a5, a6, a7, a8, a9, a10, a11, a12, a13, a14, a15, a16, a17], _ => ⟨a0, a1, a2, a3, a4, a5, a6, a7, a8, a9, a10, a11, a12, a13, a14, a15, a16, a17, rfl⟩
theorem exq19 {α : Type} {v : List α} (h : v.length = 19) : ∃ a0 a1 a2 a3 a4 a5 a6 a7 a8 a9 a10 a11 a12 a13 a14 a15 a16 a17 a18, v = [a0, a1, a2, a3, a4, a5, a6, a7, a8, a9, a10, a11, a12, a13, a14, a15, a16, a17, a18] := match v, h with | [a0, a1, a2, a3, a4, a5, a6, a7, a8, a9, a10, a11, a12, a13, a14, a15, a16, a17, a18], _ => ⟨a0, a1, a2, a3, a4, a5, a6, a7, a8, a9, a10, a11, a12, a13, a14, a15, a16, a17, a18, rfl⟩
theorem exq20 {α : Type} {v : List α} (h : v.length = 20) : ∃ a0 a1 a2 a3 a4 a5 a6 a7 a8 a9 a10 a11 a12 a13 a14 a15 a16 a17 a18 a19, v = [a0, a1, a2, a3, a4, a5, a6, a7, a8, a9, a10, a11, a12, a13, a14, a15, a16, a17, a18, a19] := match v, h with | [a0, a1, a2, a3, a4, a5, a6, a7, a8, a9, a10, a11, a12, a13, a14, a15, a16, a17, a18, a19], _ => ⟨a0, a1, a2, a3, a4, a5, a6, a7, a8, a9, a10, a11, a12, a13, a14, a15, a16, a17, a18, a19, rfl⟩
theorem exq21 {α : Type} {v : List α} (h : v.length = 21) : ∃ a0 a1 a2 a3 a4 a5 a6 a7 a8 a9 a10 a11 a12 a13 a14 a15 a16 a17 a18 a19 a20, v = [a0, a1, a2, a3, a4, a5, a6, a7, a8, a9, a10, a11, a12, a13, a14, a15, a16, a17, a18, a19, a20] := match v, h with | [a0, a1, a2, a3, a4, a5, a6, a7, a8, a9, a10, a11, a12, a13, a14, a15, a16, a17, a18, a19, a20], _ => ⟨a0, a1, a2, a3, a4, a5, a6, a7, a8, a9, a10, a11, a12, a13, a14, a15, a16, a17, a18, a19, a20, rfl⟩
theorem exq22 {α : Type} {v : List α} (h : v.length = 22) : ∃ a0 a1 a2 a3 a4 a5 a6 a7 a8 a9 a10 a11 a12 a13 a14 a15 a16 a17 a18 a19 a20 a21, v = [a0, a1, a2, a3, a4, a5, a6, a7, a8, a9, a10, a11, a12, a13, a14, a15, a16, a17, a18, a19, a20, a21] := match v, h with | [a0, a1, a2, a3, a4, a5, a6, a7, a8, a9, a10, a11, a12, a13, a14, a15, a16, a17, a18, a19, a20, a21], _ => ⟨a0, a1, a2, a3, a4, a5, a6, a7, a8, a9, a10, a11, a12, a13, a14, a15, a16, a17, a18, a19, a20, a21, rfl⟩
theorem exq23 {α : Type} {v : List α} (h : v.length = 23) : ∃ a0 a1 a2 a3 a4 a5 a6 a7 a8 a9 a10 a11 a12 a13 a14 a15 a16 a17 a18 a19 a20 a21 a22, v = [a0, a1, a2, a3, a4, a5, a6, a7, a8, a9, a10, a11, a12, a13, a14, a15, a16, a17, a18, a19, a20, a21, a22] := match v, h with | [a0, a1, a2, a3, a4, a5, a6, a7, a8, a9, a10, a11, a12, a13, a14, a15, a16, a17, a18, a19, a20, a21, a22], _ => ⟨a0, a1, a2, a3, a4, a5, a6, a7, a8, a9, a10, a11, a12, a13, a14, a15, a16, a17, a18, a19, a20, a21, a22, rfl⟩
theorem exq24 {α : Type} {v : List α} (h : v.length = 24) : ∃ a0 a1 a2 a3 a4 a5 a6 a7 a8 a9 a10 a11 a12 a13 a14 a15 a16 a17 a18 a19 a20 a21 a22 a23, v = [a0, a1, a2, a3, a4, a5, a6, a7, a8, a9, a10, a11, a12, a13, a14, a15, a16, a17, a18, a19, a20, a21, a22, a23] := match v, h with | [a0, a1, a2, a3, a4, a5, a6, a7, a8, a9, a10, a11, a12, a13, a14, a15, a16, a17, a18, a19, a20, a21, a22, a23], _ => ⟨a0, a1, a2, a3, a4, a5, a6, a7, a8, a9, a10, a11, a12, a13, a14, a15, a16, a17, a18, a19, a20, a21, a22, a23, rfl⟩
theorem exq25 {α : Type} {v : List α} (h : v.length = 25) : ∃ a0 a1 a2 a3 a4 a5 a6 a7 a8 a9 a10 a11 a12 a13 a14 a15 a16 a17 a18 a19 a20 a21 a22 a23 a24, v = [a0, a1, a2, a3, a4, a5, a6, a7, a8, a9, a10, a11, a12, a13, a14, a15, a16, a17, a18, a19, a20, a21, a22, a23, a24] := match v, h with | [a0, a1, a2, a3, a4, a5, a6, a7, a8, a9, a10, a11, a12, a13, a14, a15, a16, a17, a18, a19, a20, a21, a22, a23, a24], _ => ⟨a0, a1, a2, a3, a4, a5, a6, a7, a8, a9, a10, a11, a12, a13, a14, a15, a16, a17, a18, a19, a20, a21, a22, a23, a24, rfl⟩
/-- the cells of a script that are looked at -/
theorem pots_A {J : Int} {Γ : G3} {ns : List Int} (hJ : 1 ≤ J) (hJ2 : J ≤ 1000) (hΓ : Γ[0]? = some (some (.rol (ns.map D.int)))) : ∃ j : Nat, j ≤ 1000 ∧ iR1 (aCons (eCall fMax2 (aCons (eC (.int 1)) (aCons (eCall fMin2 (aCons (eC (.int J)) (aCons (eCall fLen (aCons (eVar 0) aNil)) aNil))) aNil))) aNil) Γ [] = .val ⟨rngD 0 j, fun _ => True⟩ [] := by
  refine ⟨(max 1 (min J ns.length)).toNat, by omega, ?_⟩
  have e : (if (if (ns.length : Int) < J then (ns.length : Int) else J) > 1 then (if (ns.length : Int) < J then (ns.length : Int) else J) else 1) = max 1 (min J ns.length) := by split <;> split <;> omega
  simp only [iR1, aCons, aNil, eCall, fMax2, fMin2, f2Int, eC, fLen, eVar, R3.bind, hΓ, itemsT_rol, List.length_map, e]
  rw [if_pos (by omega)]
theorem pots_B {J : Int} {Γ : G3} {ns : List Int} (hJ : 1 ≤ J) (hJ2 : J ≤ 1000) (hΓ : Γ[0]? = some (some (.rol (ns.map D.int)))) : ∃ j : Nat, j ≤ 1000 ∧ iR1 (aCons (eCall fMax2 (aCons (eC (.int 1)) (aCons (eCall fMin2 (aCons (eCall fLen (aCons (eVar 0) aNil)) (aCons (eC (.int J)) aNil))) aNil))) aNil) Γ [] = .val ⟨rngD 0 j, fun _ => True⟩ [] := by
  refine ⟨(max 1 (min J ns.length)).toNat, by omega, ?_⟩
  have e : (if (if J < (ns.length : Int) then J else (ns.length : Int)) > 1 then (if J < (ns.length : Int) then J else (ns.length : Int)) else 1) = max 1 (min J ns.length) := by split <;> split <;> omega
  simp only [iR1, aCons, aNil, eCall, fMax2, fMin2, f2Int, eC, fLen, eVar, R3.bind, hΓ, itemsT_rol, List.length_map, e]
  rw [if_pos (by omega)]
/-- a law that goes over its cells -/
theorem law_loop {w : Nat} {it : I3} {body : S3} {ns : List Int} (hit : ∃ j : Nat, j ≤ 1000 ∧ it (some (.rol (ns.map D.int)) :: List.replicate (w + 1) none) [] = .val ⟨rngD 0 j, fun _ => True⟩ [])
    (step : ∀ i, i ≤ 1000 → ∀ v : G3, v.length = w → ∀ L, wpS (body (some (.rol (ns.map D.int)) :: some (.int (i : Nat)) :: v) L) ⟨fun Γ' L' => ∃ v', Γ' = some (.rol (ns.map D.int)) :: v' ∧ v'.length = w + 1, fun _ _ => False, fun _ _ => False, fun _ _ => False, fun _ _ _ => False⟩) : ∃ L, run3 1 (w + 2) (sSeq (sFor it (gN 1) body) (sRet (eC (.bl true)))) [.rol (ns.map D.int)] [] = .val (.bl true) L := by
  obtain ⟨j, hj, hit⟩ := hit
  have main : wpR (run3 1 (w + 2) (sSeq (sFor it (gN 1) body) (sRet (eC (.bl true)))) [.rol (ns.map D.int)] []) (fun d L => d = .bl true) noE := by
    refine wp_run rfl ?_
    have eΓ : [D.rol (ns.map D.int)].map some ++ List.replicate (w + 2 - [D.rol (ns.map D.int)].length) none = some (.rol (ns.map D.int)) :: List.replicate (w + 1) none := by simp
    rw [eΓ, wp_sSeq, wp_sFor, hit, wpR_val]
    refine wp_forN (fun k Γ L1 => ∃ v, v.length = w + 1 ∧ Γ = some (.rol (ns.map D.int)) :: v) ⟨_, by simp, rfl⟩ (fun _ _ _ _ _ => trivial) (fun k hk Γ L1 hI => ?_) (fun Γ L1 hI => ?_)
    · obtain ⟨v, hv, rfl⟩ := hI
      obtain ⟨v1, v, rfl, hv⟩ := exp1 hv
      have hk' : k < j := by simpa using hk
      have s := step k (by omega) v (by simpa using hv) L1
      simp only [rngD_get, wp_gN, List.set]
      have ek : (0 : Int) + (k : Int) = (k : Int) := by omega
      rw [ek]
      generalize body (some (.rol (ns.map D.int)) :: some (.int (k : Nat)) :: v) L1 = o at *
      cases o with
      | nx Γ' L' => obtain ⟨v', e, h⟩ := s; exact ⟨v', h, e⟩
      | ret _ _ => exact s.elim
      | brk _ _ => exact s.elim
      | ct _ _ => exact s.elim
      | exn _ _ _ => exact s.elim
      | stuck => exact s.elim
    · rw [Po.seq_nx, wp_sRet]
      simp only [eC, wpR_val, Po.fn_rt]
      exact wp_trunc rfl (fun _ => rfl) rfl
  obtain ⟨d', L', e, rfl⟩ := main.ex
  exact ⟨L', e⟩
/-! ## drawing, of any law -/
noncomputable def dDraw (A B M M2 V : Int) : S3 :=
    (sSeq (sIf (tE (eOp fGt (eOp fIx (eVar 0) (eC (.int 0))) (eC (.int 0)))) (sSeq (sAsg (eCall fDivmod (aCons (eOp fIx (eVar 0) (eC (.int 0))) (aCons (eVar 1) aNil))) (gT 2 (gCons3 (gS (eVar 0) (eC (.int 0))) (gCons3 (gN 2) gNil3))))
    (sRet (eVar 2))) sNext)
    (sSeq (sAsg (eOp fMod (eOp fAdd (eOp fMul (eOp fIx (eVar 0) (eC (.int 1))) (eC (.int A))) (eC (.int B))) (eC (.int M))) (gS (eVar 0) (eC (.int 1))))
    (sRet (eOp fMod (eOp fFdiv (eOp fMod (eOp fMul (eOp fIx (eVar 0) (eC (.int 1))) (eOp fIx (eVar 0) (eC (.int 1)))) (eC (.int M2))) (eC (.int V))) (eVar 1)))))
theorem cmulS {a b : Int} (ha : a.natAbs < 2 ^ 62) (hb : b.natAbs < 2 ^ 62) : CMulX a b := mulx_ok (a := 62) (b := 62) ha hb (by decide)
theorem nopyS {a j : Int} (h : j.natAbs < 2 ^ 60) : Builtin.divisionGoesByPylong a j = false := PyProof.noPylong_of_log2 (by
  by_cases h0 : j.natAbs = 0
  · rw [h0]; decide +kernel
  · have := (Nat.log2_lt h0).mpr h
    omega)
theorem wp_draw {A B M M2 V m : Int} {n : Nat} {L : Lh} {Q : D → Lh → Prop} {E : Str → Lh → Prop} (hA : 0 ≤ A ∧ A < 1000000) (hB : 0 ≤ B) (hM : 0 < M ∧ M ≤ 2147483647) (hM2 : 0 < M2) (hV : 0 < V) (hp : PotAt L n) (h0 : 0 < m) (hm : m < 2 ^ 60)
    (h : ∀ d L', 0 ≤ d → d < m → Grow n L L' → PotAt L' n → Q (.int d) L') : wpR (run3 2 3 (dDraw A B M M2 V) [.loc n, .int m] L) Q E := by
  obtain ⟨p, q, hL, p0, q0, q1⟩ := id hp
  have hn : n < L.length := lt_of_get hL
  have hi := items_loc hL
  have hset : ∀ (c : Cell), (L.set n c)[n]? = some c := fun c => List.getElem?_set_self hn
  refine wp_run rfl ?_
  unfold dDraw
  simp [hi, fIx]
  refine wp_if (fun hpos => ?_) (fun hpos => ?_)
  · have np : Builtin.divisionGoesByPylong p m = false := nopyS (by omega)
    simp [hi, hpos, h0, np, fIx, setR_eq hL (show ixN 2 0 = some 0 by simp [ixN])]
    refine wp_truncG rfl (But.grow But.set) ⟨p / m, q, hset _, Int.ediv_nonneg p0 (by omega), q0, q1⟩ hn fun L'' g pp => ?_
    exact h _ _ (Int.emod_nonneg _ (by omega)) (Int.emod_lt_of_pos _ h0) g pp
  · have c1 : CMulX q A := cmulS (by omega) (by omega)
    have hq2 := Int.emod_nonneg (q * A + B) (show M ≠ 0 by omega)
    have hq3 := Int.emod_lt_of_pos (q * A + B) hM.1
    have f1 : (q * A + B).fmod M = (q * A + B) % M := Int.fmod_eq_emod_of_nonneg _ (by omega)
    generalize hqv : (q * A + B) % M = q' at *
    have c2 : CMulX q' q' := cmulS (by omega) (by omega)
    have hi2 := items_loc (hset (.lst [.int p, .int q']))
    have n1 : M ≠ 0 := by omega
    have n2 : M2 ≠ 0 := by omega
    have n3 : V ≠ 0 := by omega
    have n4 : m ≠ 0 := by omega
    simp [hi, fIx, c1, f1, n1, n2, n3, n4, setR_eq hL (show ixN 2 1 = some 1 by simp [ixN]), hi2, c2]
    refine wp_truncG rfl (But.grow But.set) ⟨p, q', hset _, p0, hq2, by omega⟩ hn fun L'' g pp => ?_
    refine h _ _ ?_ ?_ g pp
    · rw [Int.fmod_eq_emod_of_nonneg _ (by omega)]; exact Int.emod_nonneg _ n4
    · rw [Int.fmod_eq_emod_of_nonneg _ (by omega)]; exact Int.emod_lt_of_pos _ h0
/-! ## what is told apart by ==: values of one kind -/
theorem dec_irr {p : Prop} {i j : Decidable p} : @decide p i = @decide p j := by
  cases Subsingleton.elim i j; rfl
structure Enc (α : Type) where
  d : α → D
  p : α → PyData
  k : Nat
  dat : ∀ (L : Lh) (a : α) (m : Nat), k ≤ m → G.dat m L (d a) = some (p a)
  eqv : ∀ a b, PyData.eqv (p a) (p b) = decide (a = b)
  lay : ∀ a, PyData.canLay0 (p a) = true
  dep : ∀ a, PyData.depth (p a) ≤ k
  clo : ∀ n a, closed n (d a) = true
def encI : Enc Int where
  d := .int
  p := .int
  k := 1
  dat := fun L a m h => by obtain ⟨m, rfl⟩ : ∃ j, m = j + 1 := ⟨m - 1, by omega⟩; rfl
  eqv := fun a b => by rw [eqv_int]; exact dec_irr
  lay := fun a => rfl
  dep := fun a => Nat.zero_le _
  clo := fun n a => rfl
def encF : Enc Rat where
  d := fr
  p := datF
  k := 2
  dat := fun L a m h => by obtain ⟨m, rfl⟩ : ∃ j, m = j + 2 := ⟨m - 2, by omega⟩; rfl
  eqv := fun a b => by unfold datF; rw [eqv_fr]; exact dec_irr
  lay := fun a => rfl
  dep := fun a => by simp [datF, PyData.depth, PyData.depthAll]
  clo := fun n a => rfl
section
variable {α β : Type} (e : Enc α) (f : Enc β)
theorem Enc.eqvs : ∀ ps qs : List α, PyData.eqvAll (ps.map e.p) (qs.map e.p) = decide (ps = qs)
  | [], [] => by simp
  | [], q :: qs => by simp
  | p :: ps, [] => by simp
  | p :: ps, q :: qs => by
    rw [List.map_cons, List.map_cons, eqv_cons, Enc.eqvs ps qs, e.eqv]
    by_cases h : p = q <;> by_cases h2 : ps = qs <;> simp [h, h2]
theorem Enc.lays : ∀ ps : List α, PyData.canLayAll0 (ps.map e.p) = true
  | [] => by simp [PyData.canLayAll0]
  | p :: ps => by simp [PyData.canLayAll0, Enc.lays ps, e.lay]
theorem Enc.deps : ∀ ps : List α, PyData.depthAll (ps.map e.p) ≤ e.k
  | [] => by simp [PyData.depthAll]
  | p :: ps => by
    have := Enc.deps ps
    have h2 := e.dep p
    simp [PyData.depthAll]
    omega
theorem Enc.opts (L : Lh) (m : Nat) (h : e.k ≤ m) : ∀ ps : List α, G.opts (G.dat m L) (ps.map e.d) = some (ps.map e.p)
  | [] => rfl
  | p :: ps => opts_cons (e.dat L p m h) (Enc.opts L m h ps)
theorem Enc.clos (n : Nat) : ∀ ps : List α, closeds n (ps.map e.d) = true
  | [] => rfl
  | p :: ps => by rw [List.map_cons, closeds, e.clo, Enc.clos n ps]; rfl
theorem Enc.inj {a b : α} (h : e.d a = e.d b) : a = b := by
  have h1 := e.dat [] a e.k (Nat.le_refl _)
  rw [h, e.dat [] b e.k (Nat.le_refl _)] at h1
  have h2 := e.eqv a a
  have h3 := e.eqv b a
  rw [Option.some.inj h1] at h3
  rw [h2] at h3
  have h4 : b = a := by simpa using h3.symm
  exact h4.symm
/-- tuples of things of one kind -/
def encL : Enc (List α) where
  d := fun ps => .tup (ps.map e.d)
  p := fun ps => .tuple (ps.map e.p)
  k := e.k + 1
  dat := fun L a m h => by
    obtain ⟨m, rfl⟩ : ∃ j, m = j + 1 := ⟨m - 1, by omega⟩
    rw [dat_tup, e.opts L m (by omega)]; rfl
  eqv := fun a b => by rw [eqv_tuple, e.eqvs]; exact dec_irr
  lay := fun a => by simp only [PyData.canLay0]; exact e.lays a
  dep := fun a => by have := e.deps a; simp only [PyData.depth]; omega
  clo := fun n a => e.clos n a
/-- pairs -/
def encP : Enc (α × β) where
  d := fun x => .tup [e.d x.1, f.d x.2]
  p := fun x => .tuple [e.p x.1, f.p x.2]
  k := e.k + f.k + 1
  dat := fun L a m h => by
    obtain ⟨m, rfl⟩ : ∃ j, m = j + 1 := ⟨m - 1, by omega⟩
    rw [dat_tup, opts_cons (e.dat L a.1 m (by omega)) (opts_cons (f.dat L a.2 m (by omega)) rfl)]; rfl
  eqv := fun a b => by
    obtain ⟨a1, a2⟩ := a
    obtain ⟨b1, b2⟩ := b
    rw [eqv_tuple, eqv_cons, eqv_cons, eqv_nil, e.eqv, f.eqv]
    by_cases h : a1 = b1 <;> by_cases h2 : a2 = b2 <;> simp [h, h2]
  lay := fun a => by simp [PyData.canLay0, PyData.canLayAll0, e.lay, f.lay]
  dep := fun a => by have := e.dep a.1; have := f.dep a.2; simp [PyData.depth, PyData.depthAll]; omega
  clo := fun n a => by simp [e.clo, f.clo]
end
/-! spots -/
structure Spo where
  x : Rat
  y : Rat
  w : Rat
def spD (s : Spo) : D := .tup [fr s.x, fr s.y, fr s.w]
def encS : Enc Spo where
  d := spD
  p := fun s => .tuple [datF s.x, datF s.y, datF s.w]
  k := 3
  dat := fun L a m h => by
    obtain ⟨m, rfl⟩ : ∃ j, m = j + 1 := ⟨m - 1, by omega⟩
    unfold spD
    have q : ∀ r : Rat, G.dat m L (fr r) = some (datF r) := fun r => encF.dat L r m (show 2 ≤ m by omega)
    rw [dat_tup, opts_cons (q a.x) (opts_cons (q a.y) (opts_cons (q a.w) rfl))]; rfl
  eqv := fun a b => by
    obtain ⟨a1, a2, a3⟩ := a
    obtain ⟨b1, b2, b3⟩ := b
    have h1 := encF.eqv a1 b1
    have h2 := encF.eqv a2 b2
    have h3 := encF.eqv a3 b3
    change PyData.eqv (datF a1) (datF b1) = _ at h1
    change PyData.eqv (datF a2) (datF b2) = _ at h2
    change PyData.eqv (datF a3) (datF b3) = _ at h3
    rw [eqv_tuple, eqv_cons, eqv_cons, eqv_cons, eqv_nil, h1, h2, h3]
    by_cases h : a1 = b1 <;> by_cases h2 : a2 = b2 <;> by_cases h3 : a3 = b3 <;> simp [h, h2, h3]
  lay := fun a => rfl
  dep := fun a => by simp [datF, PyData.depth, PyData.depthAll]
  clo := fun n a => rfl
/-! == -/
theorem eqD_of {L : Lh} {x y : D} {a b : PyData} {r : Bool} (h1 : G.dat 8 L x = some a) (h2 : G.dat 8 L y = some b) (s1 : SeqAt.shaped a = true) (s2 : SeqAt.shaped b = true) (hr : PyData.eqv a b = r) : fEq x y L = .val (.bl r) L ∧ fNe x y L = .val (.bl (!r)) L := by
  simp [fEq, fNe, cmpD, h1, h2, s1, s2, hr]
theorem Enc.shaped {α : Type} (e : Enc α) (hk : e.k ≤ 8) (a : α) : SeqAt.shaped (e.p a) = true := by
  have := e.dep a
  unfold SeqAt.shaped
  rw [Bool.and_eq_true]
  exact ⟨e.lay a, decide_eq_true (by omega)⟩
theorem Enc.shapedL {α : Type} (e : Enc α) (hk : e.k ≤ 8) (as : List α) : SeqAt.shaped (.list (as.map e.p)) = true := by
  have := e.deps as
  unfold SeqAt.shaped
  rw [Bool.and_eq_true]
  exact ⟨by simp only [PyData.canLay0]; exact e.lays as, decide_eq_true (by simp only [PyData.depth]; omega)⟩
theorem Enc.eq {α : Type} (e : Enc α) (hk : e.k ≤ 8 := by decide) {L : Lh} {a b : α} [i : Decidable (a = b)] : fEq (e.d a) (e.d b) L = .val (.bl (decide (a = b))) L := (eqD_of (e.dat L a 8 hk) (e.dat L b 8 hk) (e.shaped hk a) (e.shaped hk b) ((e.eqv a b).trans dec_irr)).1
theorem Enc.ne {α : Type} (e : Enc α) (hk : e.k ≤ 8 := by decide) {L : Lh} {a b : α} [i : Decidable (a = b)] : fNe (e.d a) (e.d b) L = .val (.bl (!decide (a = b))) L := (eqD_of (e.dat L a 8 hk) (e.dat L b 8 hk) (e.shaped hk a) (e.shaped hk b) ((e.eqv a b).trans dec_irr)).2
theorem Enc.datL {α : Type} (e : Enc α) {L : Lh} {n m : Nat} {as : List α} (h : L[n]? = some (.lst (as.map e.d))) (hm : e.k + 1 ≤ m) : G.dat m L (.loc n) = some (.list (as.map e.p)) := by
  obtain ⟨m, rfl⟩ : ∃ j, m = j + 1 := ⟨m - 1, by omega⟩
  rw [dat_loc h, e.opts L m (by omega)]; rfl
/-- == of two lists of the cells -/
theorem Enc.eqL {α : Type} (e : Enc α) {L : Lh} {n m : Nat} {as bs : List α} (h1 : L[n]? = some (.lst (as.map e.d))) (h2 : L[m]? = some (.lst (bs.map e.d))) (hk : e.k ≤ 7 := by decide) [i : Decidable (as = bs)] :
    fEq (.loc n) (.loc m) L = .val (.bl (decide (as = bs))) L ∧ fNe (.loc n) (.loc m) L = .val (.bl (!decide (as = bs))) L :=
  eqD_of (e.datL h1 (by omega)) (e.datL h2 (by omega)) (e.shapedL (by omega) as) (e.shapedL (by omega) bs) ((eqv_list _ _).trans ((e.eqvs as bs).trans dec_irr))
theorem Enc.eqS {α : Type} (e : Enc α) {L : Lh} {n m : Nat} {as : List α} (h1 : L[n]? = some (.lst (as.map e.d))) (h2 : L[m]? = some (.lst (as.map e.d))) (hk : e.k ≤ 7 := by decide) :
    fEq (.loc n) (.loc m) L = .val (.bl true) L ∧ fNe (.loc n) (.loc m) L = .val (.bl false) L := by
  have := e.eqL h1 h2 hk
  rw [decide_eq_true rfl] at this
  exact this
@[simp] theorem fEq_fr {L : Lh} {p q : Rat} : fEq (fr p) (fr q) L = .val (.bl (decide (p = q))) L := encF.eq
@[simp] theorem fNe_fr {L : Lh} {p q : Rat} : fNe (fr p) (fr q) L = .val (.bl (!decide (p = q))) L := encF.ne
@[simp] theorem fEq_sp {L : Lh} {p q : Spo} : fEq (spD p) (spD q) L = .val (.bl (decide (p = q))) L := encS.eq
@[simp] theorem fNe_sp {L : Lh} {p q : Spo} : fNe (spD p) (spD q) L = .val (.bl (!decide (p = q))) L := encS.ne
@[simp] theorem fEq_pol {L : Lh} {p q : List Rat} : fEq (pol p) (pol q) L = .val (.bl (decide (p = q))) L := (encL encF).eq
@[simp] theorem fNe_pol {L : Lh} {p q : List Rat} : fNe (pol p) (pol q) L = .val (.bl (!decide (p = q))) L := (encL encF).ne
@[simp] theorem fEq_int {L : Lh} {p q : Int} : fEq (.int p) (.int q) L = .val (.bl (decide (p = q))) L := encI.eq
@[simp] theorem fNe_int {L : Lh} {p q : Int} : fNe (.int p) (.int q) L = .val (.bl (!decide (p = q))) L := encI.ne
/-- in a list of the cells, or a list that is there -/
theorem Enc.inL {α : Type} (e : Enc α) {L : Lh} {n : Nat} {a : α} {as : List α} (h : L[n]? = some (.lst (as.map e.d))) (hk : e.k ≤ 7 := by decide) :
    fIn false (e.d a) (.loc n) L = .val (.bl (decide (a ∈ as))) L ∧ fIn true (e.d a) (.loc n) L = .val (.bl (!decide (a ∈ as))) L := by
  have s1 := e.shaped (by omega) a
  have s2 := e.shapedL (by omega) as
  have d1 := e.dat L a 8 (by omega)
  have d2 := e.datL h (show e.k + 1 ≤ 8 by omega)
  have hr : ((as.map e.p).any fun z => PyData.eqv z (e.p a)) = decide (a ∈ as) := by
    clear h s2 d2
    induction as with
    | nil => simp
    | cons b as ih =>
      rw [List.map_cons, List.any_cons, ih, e.eqv]
      by_cases hb : b = a
      · subst hb; simp
      · have : ¬ a = b := fun z => hb z.symm
        simp [hb, this]
  simp only [fIn, d1, d2, s1, s2, hr, Bool.and_self, if_true, Bool.false_eq_true, if_false]
  simp
/-! spots by their parts -/
@[simp] theorem fIx_sp0 {L : Lh} {s : Spo} : fIx (spD s) (.int 0) L = .val (fr s.x) L := fIx_tup (k := 0) rfl rfl
@[simp] theorem fIx_sp1 {L : Lh} {s : Spo} : fIx (spD s) (.int 1) L = .val (fr s.y) L := fIx_tup (k := 1) rfl rfl
@[simp] theorem fIx_sp2 {L : Lh} {s : Spo} : fIx (spD s) (.int 2) L = .val (fr s.w) L := fIx_tup (k := 2) rfl rfl
@[simp] theorem closed_sp (n : Nat) (s : Spo) : closed n (spD s) = true := (rfl)
@[simp ↓] theorem gT_sp {gs : Tgs3} {s : Spo} {Γ : G3} {L : Lh} {P : Po} : wpS (gT 3 gs (spD s) Γ L) P = wpS (gs [fr s.x, fr s.y, fr s.w] Γ L) P := rfl
@[simp ↓] theorem gT_frw {gs : Tgs3} {q : Rat} {Γ : G3} {L : Lh} {P : Po} : wpS (gT 2 gs (fr q) Γ L) P = wpS (gs [.int q.num, .int q.den] Γ L) P := rfl
noncomputable def d_lever : S3 :=
    (sSeq (sSet 2 (eC k_ONE))
    (sSeq (sFor (iEnB (eVar 0)) (gT 2 (gCons3 (gN 3) (gCons3 (gN 4) gNil3))) (sIf (tE (eOp fNe (eVar 3) (eVar 1))) (sSet 2 (eCall fn_times (aCons (eVar 2) (aCons (eCall fn_less (aCons (eOp fIx (eVar 0) (eVar 1)) (aCons (eVar 4) aNil))) aNil)))) sNext))
    (sRet (eCall fn_over (aCons (eC k_ONE) (aCons (eVar 2) aNil))))))
noncomputable def fn_lever : Fn3 := run3 2 5 d_lever
noncomputable def d_levers : S3 :=
    (sRet (eLc (iR1 (aCons (eCall fLen (aCons (eVar 0) aNil)) aNil)) (gN 1) tTrue (eCall fn_lever (aCons (eVar 0) (aCons (eVar 1) aNil))) [1]))
noncomputable def fn_levers : Fn3 := run3 1 2 d_levers
noncomputable def d_weighed : S3 :=
    (sSeq (sSet 2 (eC k_NOUGHT))
    (sSeq (sFor (iZp (eCall fn_levers (aCons (eVar 0) aNil)) (eVar 1)) (gT 2 (gCons3 (gN 3) (gCons3 (gN 4) gNil3))) (sSet 2 (eCall fn_plus (aCons (eVar 2) (aCons (eCall fn_times (aCons (eVar 3) (aCons (eVar 4) aNil))) aNil)))))
    (sRet (eVar 2))))
noncomputable def fn_weighed : Fn3 := run3 2 5 d_weighed
noncomputable def d_unsigned : S3 :=
    (sRet (eTup (aCons (eCall fAbs (aCons (eOp fIx (eVar 0) (eC (.int 0))) aNil)) (aCons (eOp fIx (eVar 0) (eC (.int 1))) aNil))))
noncomputable def fn_unsigned : Fn3 := run3 1 1 d_unsigned
noncomputable def d_opposite : S3 :=
    (sRet (eTup (aCons (eOp fSub (eC (.int 0)) (eOp fIx (eVar 0) (eC (.int 0)))) (aCons (eOp fIx (eVar 0) (eC (.int 1))) aNil))))
noncomputable def fn_opposite : Fn3 := run3 1 1 d_opposite
noncomputable def d_room_of : S3 :=
    (sSeq (sSet 1 (eC k_NOUGHT))
    (sSeq (sFor (iZp (eCall fn_levers (aCons (eLc (iLT (eVar 0)) (gT 3 (gCons3 (gN 4) (gCons3 (gN 5) (gCons3 (gN 6) gNil3)))) tTrue (eVar 4) [4, 5, 6]) aNil)) (eVar 0)) (gT 2 (gCons3 (gN 2) (gCons3 (gN 3) gNil3))) (sSet 1 (eCall fn_plus (aCons (eVar 1) (aCons (eCall fn_over (aCons (eCall fn_unsigned (aCons (eVar 2) aNil)) (aCons (eOp fIx (eVar 3) (eC (.int 2))) aNil))) aNil)))))
    (sRet (eVar 1))))
noncomputable def fn_room_of : Fn3 := run3 1 7 d_room_of
noncomputable def d_first_error : S3 :=
    (sSeq (sSet 1 (eCall fn_weighed (aCons (eLc (iLT (eVar 0)) (gT 3 (gCons3 (gN 2) (gCons3 (gN 3) (gCons3 (gN 4) gNil3)))) tTrue (eVar 2) [2, 3, 4]) (aCons (eLc (iLT (eVar 0)) (gT 3 (gCons3 (gN 2) (gCons3 (gN 3) (gCons3 (gN 4) gNil3)))) tTrue (eVar 3) [2, 3, 4]) aNil))))
    (sSeq (sSet 5 (eCall fn_over (aCons (eVar 1) (aCons (eCall fn_room_of (aCons (eVar 0) aNil)) aNil))))
    (sRet (eIf (tE (eOp fEq (eOp fMod (eCall fLen (aCons (eVar 0) aNil)) (eC (.int 2))) (eC (.int 1)))) (eVar 5) (eCall fn_opposite (aCons (eVar 5) aNil))))))
noncomputable def fn_first_error : Fn3 := run3 1 6 d_first_error
noncomputable def d_level : S3 :=
    (sSeq (sSet 1 (eCall fn_first_error (aCons (eVar 0) aNil)))
    (sSeq (sSet 2 (eLst aNil))
    (sSeq (sFor (iEnB (eSl (eVar 0) (oSo (eC (.int 1))) oNo)) (gT 2 (gCons3 (gN 3) (gCons3 (gT 3 (gCons3 (gN 4) (gCons3 (gN 5) (gCons3 (gN 6) gNil3)))) gNil3))) (sSeq (sSet 7 (eIf (tE (eOp fEq (eOp fMod (eVar 3) (eC (.int 2))) (eC (.int 1)))) (eVar 1) (eCall fn_opposite (aCons (eVar 1) aNil))))
    (sDrop (eMt "list" mAppend (eVar 2) (aCons (eTup (aCons (eVar 4) (aCons (eCall fn_less (aCons (eVar 5) (aCons (eCall fn_over (aCons (eVar 7) (aCons (eVar 6) aNil))) aNil))) aNil))) aNil)))))
    (sRet (eTup (aCons (eCall fn_through (aCons (eVar 2) aNil)) (aCons (eVar 1) aNil)))))))
noncomputable def fn_level : Fn3 := run3 1 8 d_level
noncomputable def d_bound : S3 :=
    (sRet (eCall fn_unsigned (aCons (eCall fn_first_error (aCons (eVar 0) aNil)) aNil)))
noncomputable def fn_bound : Fn3 := run3 1 1 d_bound
noncomputable def d_law_pot : S3 :=
    (sSeq (sSet 2 (eIf (tE (eOp fLt (eVar 1) (eCall fLen (aCons (eVar 0) aNil)))) (eOp fIx (eVar 0) (eVar 1)) (eC (.int 0))))
    (sRet (eLst (aCons (eCall fMax2 (aCons (eC (.int 0)) (aCons (eOp fSub (eCall fAbs (aCons (eVar 2) aNil)) (eOp fPow (eC (.int 10)) (eC (.int 18)))) aNil))) (aCons (eOp fAdd (eOp fMod (eOp fAdd (eOp fAdd (eCall fAbs (aCons (eVar 2) aNil)) (eOp fMul (eC (.int 7919)) (eVar 1))) (eC (.int 3))) (eC (.int 2147483629))) (eC (.int 1))) aNil)))))
noncomputable def fn_law_pot : Fn3 := run3 2 3 d_law_pot
noncomputable def d_law_draw : S3 :=
    (sSeq (sIf (tE (eOp fGt (eOp fIx (eVar 0) (eC (.int 0))) (eC (.int 0)))) (sSeq (sAsg (eCall fDivmod (aCons (eOp fIx (eVar 0) (eC (.int 0))) (aCons (eVar 1) aNil))) (gT 2 (gCons3 (gS (eVar 0) (eC (.int 0))) (gCons3 (gN 2) gNil3))))
    (sRet (eVar 2))) sNext)
    (sSeq (sAsg (eOp fMod (eOp fAdd (eOp fMul (eOp fIx (eVar 0) (eC (.int 1))) (eC (.int 48271))) (eC (.int 39373))) (eC (.int 2147483647))) (gS (eVar 0) (eC (.int 1))))
    (sRet (eOp fMod (eOp fFdiv (eOp fMod (eOp fMul (eOp fIx (eVar 0) (eC (.int 1))) (eOp fIx (eVar 0) (eC (.int 1)))) (eC (.int 2147483629))) (eC (.int 3))) (eVar 1)))))
noncomputable def fn_law_draw : Fn3 := run3 2 3 d_law_draw
noncomputable def d_law_fraction : S3 :=
    (sSeq (sPar 2 3 (eCall fAbs (aCons (eVar 0) aNil)) (eCall fAbs (aCons (eVar 1) aNil)))
    (sSeq (sWhile (tE (eOp fNe (eVar 3) (eC (.int 0)))) (sPar 2 3 (eVar 3) (eOp fMod (eVar 2) (eVar 3))))
    (sSeq (sIf (tE (eOp fLt (eVar 1) (eC (.int 0)))) (sSet 2 (eUn fNeg (eVar 2))) sNext)
    (sRet (eTup (aCons (eOp fFdiv (eVar 0) (eVar 2)) (aCons (eOp fFdiv (eVar 1) (eVar 2)) aNil)))))))
noncomputable def fn_law_fraction : Fn3 := run3 2 4 d_law_fraction
noncomputable def d_law_plus : S3 :=
    (sRet (eCall fn_law_fraction (aCons (eOp fAdd (eOp fMul (eOp fIx (eVar 0) (eC (.int 0))) (eOp fIx (eVar 1) (eC (.int 1)))) (eOp fMul (eOp fIx (eVar 1) (eC (.int 0))) (eOp fIx (eVar 0) (eC (.int 1))))) (aCons (eOp fMul (eOp fIx (eVar 0) (eC (.int 1))) (eOp fIx (eVar 1) (eC (.int 1)))) aNil))))
noncomputable def fn_law_plus : Fn3 := run3 2 2 d_law_plus
noncomputable def d_law_less : S3 :=
    (sRet (eCall fn_law_fraction (aCons (eOp fSub (eOp fMul (eOp fIx (eVar 0) (eC (.int 0))) (eOp fIx (eVar 1) (eC (.int 1)))) (eOp fMul (eOp fIx (eVar 1) (eC (.int 0))) (eOp fIx (eVar 0) (eC (.int 1))))) (aCons (eOp fMul (eOp fIx (eVar 0) (eC (.int 1))) (eOp fIx (eVar 1) (eC (.int 1)))) aNil))))
noncomputable def fn_law_less : Fn3 := run3 2 2 d_law_less
noncomputable def d_law_times : S3 :=
    (sRet (eCall fn_law_fraction (aCons (eOp fMul (eOp fIx (eVar 0) (eC (.int 0))) (eOp fIx (eVar 1) (eC (.int 0)))) (aCons (eOp fMul (eOp fIx (eVar 0) (eC (.int 1))) (eOp fIx (eVar 1) (eC (.int 1)))) aNil))))
noncomputable def fn_law_times : Fn3 := run3 2 2 d_law_times
noncomputable def d_law_by : S3 :=
    (sRet (eCall fn_law_fraction (aCons (eOp fMul (eOp fIx (eVar 0) (eC (.int 0))) (eOp fIx (eVar 1) (eC (.int 1)))) (aCons (eOp fMul (eOp fIx (eVar 0) (eC (.int 1))) (eOp fIx (eVar 1) (eC (.int 0)))) aNil))))
noncomputable def fn_law_by : Fn3 := run3 2 2 d_law_by
noncomputable def d_law_is_fraction : S3 :=
    (sSeq (sIf (tOr3 (tNot3 (tE (eCall fIsi (aCons (eVar 0) (aCons (eC (.val (.ty "tuple"))) aNil))))) (tE (eOp fNe (eCall fLen (aCons (eVar 0) aNil)) (eC (.int 2))))) (sRet (eC (.bl false))) sNext)
    (sSeq (sFor (iLT (eVar 0)) (gN 1) (sIf (tOr3 (tNot3 (tE (eCall fIsi (aCons (eVar 1) (aCons (eC (.val (.ty "int"))) aNil))))) (tE (eCall fIsi (aCons (eVar 1) (aCons (eC (.val (.ty "bool"))) aNil))))) (sRet (eC (.bl false))) sNext))
    (sRet (eAnd (eOp fGt (eOp fIx (eVar 0) (eC (.int 1))) (eC (.int 0))) (eOp fEq (eVar 0) (eCall fn_law_fraction (aCons (eOp fIx (eVar 0) (eC (.int 0))) (aCons (eOp fIx (eVar 0) (eC (.int 1))) aNil))))))))
noncomputable def fn_law_is_fraction : Fn3 := run3 1 2 d_law_is_fraction
noncomputable def d_law_value : S3 :=
    (sSeq (sSet 1 (eCall fn_law_draw (aCons (eVar 0) (aCons (eC (.int 4)) aNil))))
    (sSeq (sIf (tE (eOp fEq (eVar 1) (eC (.int 0)))) (sRet (eCall fn_law_fraction (aCons (eOp fAdd (eOp fSub (eCall fn_law_draw (aCons (eVar 0) (aCons (eOp fSub (eOp fMul (eC (.int 2)) (eOp fPow (eC (.int 10)) (eC (.int 12)))) (eC (.int 1))) aNil))) (eOp fPow (eC (.int 10)) (eC (.int 12)))) (eC (.int 1))) (aCons (eOp fAdd (eC (.int 1)) (eCall fn_law_draw (aCons (eVar 0) (aCons (eOp fSub (eOp fPow (eC (.int 10)) (eC (.int 12))) (eC (.int 1))) aNil)))) aNil)))) sNext)
    (sSeq (sIf (tE (eOp fEq (eVar 1) (eC (.int 1)))) (sRet (eCall fn_law_fraction (aCons (eOp fSub (eCall fn_law_draw (aCons (eVar 0) (aCons (eC (.int 199)) aNil))) (eC (.int 99))) (aCons (eOp fAdd (eC (.int 1)) (eCall fn_law_draw (aCons (eVar 0) (aCons (eC (.int 12)) aNil)))) aNil)))) sNext)
    (sRet (eTup (aCons (eOp fSub (eCall fn_law_draw (aCons (eVar 0) (aCons (eC (.int 9)) aNil))) (eC (.int 4))) (aCons (eC (.int 1)) aNil)))))))
noncomputable def fn_law_value : Fn3 := run3 1 2 d_law_value
noncomputable def d_law_weight : S3 :=
    (sSeq (sSet 1 (eCall fn_law_draw (aCons (eVar 0) (aCons (eC (.int 3)) aNil))))
    (sSeq (sIf (tE (eOp fEq (eVar 1) (eC (.int 0)))) (sRet (eTup (aCons (eC (.int 1)) (aCons (eC (.int 1)) aNil)))) sNext)
    (sSeq (sSet 2 (eOp fIx (eLst (aCons (eC (.int 9)) (aCons (eOp fSub (eOp fPow (eC (.int 10)) (eC (.int 6))) (eC (.int 1))) aNil))) (eOp fSub (eVar 1) (eC (.int 1)))))
    (sRet (eCall fn_law_fraction (aCons (eOp fAdd (eC (.int 1)) (eCall fn_law_draw (aCons (eVar 0) (aCons (eVar 2) aNil)))) (aCons (eOp fAdd (eC (.int 1)) (eCall fn_law_draw (aCons (eVar 0) (aCons (eVar 2) aNil)))) aNil)))))))
noncomputable def fn_law_weight : Fn3 := run3 1 3 d_law_weight
local macro_rules
  | `(tactic| size_fits) => `(tactic| first
    | assumption
    | exact sz0
    | exact sz1
    | (refine Fit.le (by size_fits) ?_; first | decide | omega)
    | (refine Sz.add ?_ ?_ <;> size_fits)
    | (refine Sz.sub ?_ ?_ <;> size_fits)
    | (refine Sz.mul ?_ ?_ <;> size_fits)
    | (refine Sz.neg ?_ <;> size_fits)
    | (refine Sz.abs ?_ <;> size_fits)
    | (refine sz_at0 ?_ _ <;> size_fits))
/-! ## family B: what its laws draw and reckon -/
theorem law_draw {m : Int} {n : Nat} {L : Lh} {Q : D → Lh → Prop} {E : Str → Lh → Prop} (hp : PotAt L n) (h0 : 0 < m) (hm : m < 2 ^ 60)
    (h : ∀ d L', 0 ≤ d → d < m → Grow n L L' → PotAt L' n → Q (.int d) L') : wpR (fn_law_draw [.loc n, .int m] L) Q E :=
  wp_draw (A := 48271) (B := 39373) (M := 2147483647) (M2 := 2147483629) (V := 3) (by decide) (by decide) (by decide) (by decide) (by decide) hp h0 hm h
theorem law_pot {ns : List Int} {k : Nat} {L : Lh} {Q : D → Lh → Prop} {E : Str → Lh → Prop} (hk : k ≤ 1000) (h : ∀ c, PotAt (L ++ [c]) L.length → Q (.loc L.length) (L ++ [c])) : wpR (fn_law_pot [.rol (ns.map D.int), .int k] L) Q E := by
  have key : ∀ c : Int, ∃ p q : Int, (0 ≤ p ∧ 0 ≤ q ∧ q < 4294967296) ∧ (if (c.natAbs : Int) - 1000000000000000000 > 0 then (c.natAbs : Int) - 1000000000000000000 else 0) = p ∧ ((c.natAbs : Int) + 7919 * k + 3).fmod 2147483629 + 1 = q := fun c => by
    have e := Int.fmod_eq_emod_of_nonneg ((c.natAbs : Int) + 7919 * k + 3) (show (0 : Int) ≤ 2147483629 by decide)
    exact ⟨_, _, ⟨by split <;> omega, by omega, by omega⟩, rfl, rfl⟩
  have m1 : CMulX 7919 (k : Int) := cmulS (by omega) (by omega)
  have pw : CPow 10 18 := ⟨by decide, by decide, by decide⟩
  have fin : ∀ c : Int, ∀ p q : Int, (0 ≤ p ∧ 0 ≤ q ∧ q < 4294967296) → wpR (trunc L (.loc L.length) (L ++ [.lst [.int p, .int q]])) Q E := fun c p q hpq => by
    rw [wp_truncN rfl]
    exact h _ ⟨p, q, by simp, hpq⟩
  unfold fn_law_pot d_law_pot
  refine wp_run rfl ?_
  by_cases hlt : k < ns.length
  · obtain ⟨p, q, hpq, e1, e2⟩ := key ns[k]
    have ha : L2.atI (ns.map D.int) (k : Int) = some (.int ns[k]) := by
      rw [atI_some (xs := ns.map D.int) (k := k) (by simpa using hlt)]; simp
    have e1' : (if 1000000000000000000 < (ns[k].natAbs : Int) then (ns[k].natAbs : Int) - 1000000000000000000 else 0) = p := by rw [← e1]; split <;> split <;> omega
    simp [fIx, hlt, ha, abs_if, m1, pw, e2, e1']
    have := fin 0 p q hpq
    simpa using this
  · obtain ⟨p, q, hpq, e1, e2⟩ := key 0
    have e2' : ((7919 * (k : Int)) + 3).fmod 2147483629 + 1 = q := by simpa using e2
    obtain rfl : p = 0 := by rw [← e1]; rfl
    simp [hlt, m1, pw, e2']
    have := fin 0 0 q hpq
    simpa using this
theorem fn_law_fraction_eq {a b : Int} (L : Lh) (hb : b ≠ 0) : fn_law_fraction [.int a, .int b] L = .val (fr (Rat.divInt a b)) L := by
  have hg := gcd_pos (a := a) hb
  have gg : Int.gcd (a.natAbs : Int) (b.natAbs : Int) = Int.gcd a b := by simp [Int.gcd]
  apply wpR.eq
  unfold fn_law_fraction d_law_fraction
  refine wp_run rfl ?_
  simp [abs_if]
  refine wp_while (fun m Γ L' => ∃ x : Int, 0 ≤ x ∧ Γ = [some (.int a), some (.int b), some (.int x), some (.int m)] ∧ L' = L ∧ Int.gcd x m = Int.gcd a b) b.natAbs ⟨a.natAbs, by omega, rfl, rfl, gg⟩ (fun m Γ L' h => ?_)
  obtain ⟨x, hx, rfl, rfl, hgx⟩ := h
  simp
  by_cases hm : m = 0
  · subst hm
    have hx2 : x = (Int.gcd a b : Int) := by rw [← hgx]; simp [Int.gcd]; omega
    subst hx2
    simp
    refine wp_if (fun hb0 => ?_) (fun hb0 => ?_)
    · have e := frac_gcd a b hb (-(Int.gcd a b : Int)) (by rw [if_pos hb0])
      have c2 : Int.gcd a b ≠ 0 := by omega
      simp [c2, e]
    · have e := frac_gcd a b hb (Int.gcd a b : Int) (by rw [if_neg hb0])
      have c2 : Int.gcd a b ≠ 0 := by omega
      simp [c2, e]
  · have hm0 : (0 : Int) < (m : Int) := by omega
    have hnn := Int.emod_nonneg x (show (m : Int) ≠ 0 by omega)
    have hlt := Int.emod_lt_of_pos x hm0
    have e1 : x.fmod (m : Int) = ((x % (m : Int)).toNat : Int) := by
      rw [Int.fmod_eq_emod_of_nonneg _ (by omega), Int.toNat_of_nonneg hnn]
    simp [hm]
    refine ⟨(x % (m : Int)).toNat, by omega, m, by omega, ⟨rfl, e1⟩, ?_⟩
    rw [Int.toNat_of_nonneg hnn, ← gcd_step hx hm0, hgx]
section
variable {p q : Rat}
theorem fn_law_plus_eq (L : Lh) (hp : Fit p) (hq : Fit q) : fn_law_plus [fr p, fr q] L = .val (fr (p + q)) L := by
  have z := fn_law_fraction_eq (a := p.num * q.den + q.num * p.den) L (dens_ne p q)
  rw [rat_add] at z
  apply wpR.eq
  unfold fn_law_plus d_law_plus
  refine wp_run rfl ?_
  simp [hp.1, hp.2, hq.1, hq.2, -fMul, z]
theorem fn_law_less_eq (L : Lh) (hp : Fit p) (hq : Fit q) : fn_law_less [fr p, fr q] L = .val (fr (p - q)) L := by
  have z := fn_law_fraction_eq (a := p.num * q.den - q.num * p.den) L (dens_ne p q)
  rw [rat_sub] at z
  apply wpR.eq
  unfold fn_law_less d_law_less
  refine wp_run rfl ?_
  simp [hp.1, hp.2, hq.1, hq.2, -fMul, z]
theorem fn_law_times_eq (L : Lh) (hp : Fit p) (hq : Fit q) : fn_law_times [fr p, fr q] L = .val (fr (p * q)) L := by
  have z := fn_law_fraction_eq (a := p.num * q.num) L (dens_ne p q)
  rw [rat_mul] at z
  apply wpR.eq
  unfold fn_law_times d_law_times
  refine wp_run rfl ?_
  simp [hp.1, hp.2, hq.1, hq.2, -fMul, z]
theorem fn_law_by_eq (L : Lh) (hp : Fit p) (hq : Fit q) (h0 : q ≠ 0) : fn_law_by [fr p, fr q] L = .val (fr (p / q)) L := by
  have z := fn_law_fraction_eq (a := p.num * q.den) L (Int.mul_ne_zero (den_ne p) (num_ne h0))
  rw [rat_div] at z
  apply wpR.eq
  unfold fn_law_by d_law_by
  refine wp_run rfl ?_
  simp [hp.1, hp.2, hq.1, hq.2, -fMul, z]
theorem fn_law_is_fraction_eq (L : Lh) : fn_law_is_fraction [fr q] L = .val (.bl true) L := by
  have z := fn_law_fraction_eq (a := q.num) L (den_ne q)
  rw [Rat.num_divInt_den] at z
  have hd : 0 < q.den := q.den_pos
  apply wpR.eq
  unfold fn_law_is_fraction d_law_is_fraction
  refine wp_run rfl ?_
  simp
  refine wp_forN (fun i Γ L' => (∃ v, Γ = [some (fr q), v]) ∧ L' = L) ⟨⟨_, rfl⟩, rfl⟩ (fun _ _ _ _ _ => by trivial) (fun i hi Γ L' h => ?_) (fun Γ L' h => ?_)
  · obtain ⟨⟨v, rfl⟩, rfl⟩ := h
    have hi' : i < 2 := hi
    have : i = 0 ∨ i = 1 := by omega
    rcases this with rfl | rfl <;> simp
  · obtain ⟨⟨v, rfl⟩, rfl⟩ := h
    simp [hd, z]
end
/-! ## rising numbers -/
def Rise (xs : List Rat) : Prop := ∀ i j, i < j → j < xs.length → at0 xs i < at0 xs j
/-- no two alike -/
def Dis (xs : List Rat) : Prop := ∀ i j, i < xs.length → j < xs.length → i ≠ j → at0 xs i ≠ at0 xs j
theorem Rise.dis {xs : List Rat} (h : Rise xs) : Dis xs := fun i j hi hj hij e => by
  rcases Nat.lt_or_gt_of_ne hij with q | q
  · have := h i j q hj; rw [e] at this; exact absurd this Rat.lt_irrefl
  · have := h j i q hi; rw [e] at this; exact absurd this Rat.lt_irrefl
theorem at0_snoc_lt {xs : List Rat} {q : Rat} {i : Nat} (h : i < xs.length) : at0 (xs ++ [q]) i = at0 xs i := by
  rw [at0_lt (by simp; omega), at0_lt h, List.getElem_append_left]
theorem at0_snoc_eq {xs : List Rat} {q : Rat} : at0 (xs ++ [q]) xs.length = q := by
  rw [at0_lt (by simp)]; simp
theorem Rise.snoc {xs : List Rat} {q : Rat} (h : Rise xs) (hq : ∀ i, i < xs.length → at0 xs i < q) : Rise (xs ++ [q]) := fun i j hij hj => by
  simp at hj
  by_cases e : j = xs.length
  · subst e; rw [at0_snoc_lt hij, at0_snoc_eq]; exact hq i hij
  · rw [at0_snoc_lt (by omega), at0_snoc_lt (by omega)]; exact h i j hij (by omega)
theorem Rise.nil : Rise [] := fun i j _ h => nomatch h
theorem SzP.snoc {n : Nat} {xs : List Rat} {q : Rat} (h : SzP n xs) (hq : Sz n q) : SzP n (xs ++ [q]) := fun p hp => by
  rcases List.mem_append.mp hp with hp | hp
  · exact h p hp
  · rw [List.mem_singleton.mp hp]; exact hq
theorem atI_3 {α : Type} (x y z w : α) (r : List α) : atI (x :: y :: z :: w :: r) 3 = some w := L2.atI_nat (by simp)
theorem rat_between {w u b : Int} (hb : 0 < b) (h0 : 0 ≤ u) (h1 : u < b) : (w : Rat) ≤ Rat.divInt (w * b + u) b ∧ Rat.divInt (w * b + u) b < ((w + 1 : Int) : Rat) := by
  have hb' : (0 : Rat) < (b : Rat) := by exact_mod_cast hb
  have e : Rat.divInt (w * b + u) b = ((w * b + u : Int) : Rat) / (b : Rat) := Rat.divInt_eq_div _ _
  rw [e]
  have h2 : (0 : Rat) ≤ (u : Rat) := by exact_mod_cast h0
  have h3 : (u : Rat) < (b : Rat) := by exact_mod_cast h1
  constructor
  · refine Rat.not_lt.mp fun z => ?_
    rw [Rat.div_lt_iff hb'] at z
    push_cast at z; grind
  · rw [Rat.div_lt_iff hb']; push_cast; grind
theorem divInt_lt {a b c d : Int} (hb : 0 < b) (hd : 0 < d) (h : a * d < c * b) : Rat.divInt a b < Rat.divInt c d := by
  have hb' : (0 : Rat) < (b : Rat) := by exact_mod_cast hb
  have hd' : (0 : Rat) < (d : Rat) := by exact_mod_cast hd
  rw [Rat.divInt_eq_div, Rat.divInt_eq_div, Rat.div_lt_iff hb']
  have h2 : (a : Rat) * (d : Rat) < (c : Rat) * (b : Rat) := by exact_mod_cast h
  have e : (c : Rat) / (d : Rat) * (b : Rat) = ((c : Rat) * (b : Rat)) / (d : Rat) := by grind
  rw [e]
  refine Rat.not_le.mp fun z => ?_
  have h3 := Rat.mul_le_mul_of_nonneg_right z (Rat.le_of_lt hd')
  have e2 : (c : Rat) * (b : Rat) / (d : Rat) * (d : Rat) = (c : Rat) * (b : Rat) := by grind
  rw [e2] at h3
  grind
/-- one more number at the end -/
theorem rise_step {ps : List Rat} {q : Rat} {u v : Int} (hr : Rise ps) (hb : ∀ i, i < ps.length → at0 ps i < (u : Rat)) (q1 : (u : Rat) ≤ q) (q2 : q < (v : Rat)) : Rise (ps ++ [q]) ∧ ∀ i, i < (ps ++ [q]).length → at0 (ps ++ [q]) i < (v : Rat) := by
  have lq : ∀ i, i < ps.length → at0 ps i < q := fun i hi => by have := hb i hi; grind
  refine ⟨hr.snoc lq, fun i hi => ?_⟩
  simp at hi
  by_cases e : i = ps.length
  · subst e; rw [at0_snoc_eq]; exact q2
  · rw [at0_snoc_lt (by omega)]
    have := lq i (by omega)
    grind
theorem map_snoc {ps : List Rat} {q : Rat} : ps.map fr ++ [fr q] = (ps ++ [q]).map fr := by simp
theorem divInt_1 (i : Int) : Rat.divInt i 1 = (i : Rat) := by rw [Rat.divInt_eq_div]; show (i : Rat) / (1 : Rat) = i; grind
theorem rise_app {a b : List Rat} (ha : Rise a) (hb : Rise b) (h : ∀ i j, i < a.length → j < b.length → at0 a i < at0 b j) : Rise (a ++ b) := by
  intro i j hij hj
  have e : ∀ i, at0 (a ++ b) i = if i < a.length then at0 a i else at0 b (i - a.length) := fun i => by
    unfold at0
    split
    · rename_i h; simp [List.getElem?_append_left h]
    · rename_i h; simp [List.getElem?_append_right (show a.length ≤ i by omega)]
  rw [e, e]
  simp at hj
  split
  · split
    · rename_i h1 h2; exact ha i j hij h2
    · rename_i h1 h2; exact h i _ h1 (by omega)
  · split
    · omega
    · exact hb _ _ (by omega) (by omega)
theorem rat_mk {n : Int} {d : Nat} (hd : d ≠ 0) (hr : n.natAbs.Coprime d) : D.tup [.int n, .int d] = fr (Rat.divInt n d) := (frac_of (a := n) (b := d) (N := n) (Dn := d) (by omega) (by omega) hr rfl).symm
theorem divInt_one_sz {d : Int} {k : Nat} (h0 : 0 < d) (h : d < 2 ^ k) : Sz (k + 1) (Rat.divInt 1 d) := by
  have := sz_divInt (a := 1) (b := d) (n := k + 1) (m := k + 1) (by omega) (by unfold Bd; have := Nat.one_lt_two_pow (n := k + 1) (by omega); simpa using this) (by
    unfold Bd
    have h2 : d.natAbs < 2 ^ k := by
      have : ((2 ^ k : Nat) : Int) = 2 ^ k := by norm_cast
      omega
    exact Nat.lt_of_lt_of_le h2 (Nat.pow_le_pow_right (by decide) (by omega)))
  exact this
theorem fr_one_over {d : Int} (h0 : 0 < d) : D.tup [.int 1, .int d] = fr (Rat.divInt 1 d) := by
  obtain ⟨k, rfl⟩ := Int.eq_ofNat_of_zero_le (Int.le_of_lt h0)
  exact rat_mk (n := 1) (d := k) (by omega) (by simp)
theorem fr_of_int (i : Int) : D.tup [.int i, .int 1] = fr (i : Rat) := (fr_int i).symm
theorem fAdd_loc {L : Lh} {n m : Nat} {xs ys : List D} (h : L[n]? = some (.lst xs)) (h2 : L[m]? = some (.lst ys)) (hl : xs.length + ys.length ≤ 100000) : fAdd (.loc n) (.loc m) L = .val (.loc L.length) (L ++ [.lst (xs ++ ys)]) := by
  simp only [fAdd, h, h2, if_pos hl]
theorem numbers_loop {L0 L : Lh} {n m many : Nat} {way a b S : Int} {v4 : Option D} {P : Po} (hw : 0 ≤ way) (hS : L2.atI [D.int 3, D.int 100000000000, D.int 1, D.int 5] way = some (.int S)) (hS0 : 0 < S) (hS1 : S ≤ 100000000000) (hb0 : 0 < b) (hb1 : b < 2 ^ 44) (ha : a.natAbs < 10 ^ 12) (hm : many ≤ 8) (hp : PotAt L n) (hn : n < L0.length) (g0 : Grow n L0 L) (hL : L0.length ≤ m) (hLm : L[m]? = some (.lst []))
    (h : ∀ ps Γ L', L'[m]? = some (.lst (ps.map fr)) → Grow n L0 L' → PotAt L' n → ps.length = many → Rise ps → SzP 44 ps → (∃ v4 v6, Γ = [some (.loc n), some (.int many), some (.int way), none, v4, some (.int b), v6, some (.loc m)]) → P.nx Γ L') :
    wpS (forL (fun _ => True) (gN 4) (sSeq (sDrop (eMt "list" mAppend (eVar 7) (aCons (eCall fn_law_fraction (aCons (eVar 6) (aCons (eVar 5) aNil))) aNil)))
    (sSet 6 (eOp fAdd (eOp fAdd (eVar 6) (eC (.int 1))) (eCall fn_law_draw (aCons (eVar 0) (aCons (eOp fIx (eLst (aCons (eC (.int 3)) (aCons (eOp fPow (eC (.int 10)) (eC (.int 11))) (aCons (eC (.int 1)) (aCons (eC (.int 5)) aNil))))) (eVar 2)) aNil)))))) (rngD 0 many) [some (.loc n), some (.int many), some (.int way), none, v4, some (.int b), some (.int a), some (.loc m)] L) P := by
  have p11 : CPow 10 11 := ⟨by decide, by decide, by decide⟩
  have hne : m ≠ n := by omega
  refine wp_for (fun k Γ L' => ∃ (ps : List Rat) (at_ : Int), (∃ v4, Γ = [some (.loc n), some (.int many), some (.int way), none, v4, some (.int b), some (.int at_), some (.loc m)]) ∧ L'[m]? = some (.lst (ps.map fr)) ∧ Grow n L0 L' ∧ PotAt L' n ∧ ps.length = k ∧ Rise ps ∧ SzP 44 ps ∧ at_.natAbs ≤ 10 ^ 12 + k * 10 ^ 11 ∧ ∀ i, i < ps.length → at0 ps i < Rat.divInt at_ b)
    ⟨[], a, ⟨_, rfl⟩, hLm, g0, hp, rfl, Rise.nil, szP_nil, by omega, by simp⟩ (fun _ _ _ _ _ => trivial) (fun k hk Γ L1 J hJ hI => ?_) (fun Γ L1 hI => ?_)
  · obtain ⟨ps, at_, ⟨v4, rfl⟩, h1, g1, p1, hl, hr, hs, hab, hlt⟩ := hI
    have hk' : k < many := by simpa using hk
    have hbn : b ≠ 0 := by omega
    simp [h1, fn_law_fraction_eq _ hbn]
    rw [mAppend_eq h1 (by simp; omega)]
    simp [p11, hS, fIx]
    have h3 : (L1.set m (.lst ((ps ++ [Rat.divInt at_ b]).map fr)))[m]? = some (.lst ((ps ++ [Rat.divInt at_ b]).map fr)) := List.getElem?_set_self (lt_of_get h1)
    refine law_draw (p1.set hne).app hS0 (by omega) fun d L2 d0 d1 g2 p2 => ?_
    have e0 : ps.map fr ++ [fr (Rat.divInt at_ b)] = (ps ++ [Rat.divInt at_ b]).map fr := map_snoc
    simp
    refine hJ _ _ ⟨ps ++ [Rat.divInt at_ b], at_ + 1 + d, ⟨_, rfl⟩, ?_, (g1.set hL).trans (Grow.app.trans g2), p2, by simp [hl], ?_⟩
    · rw [e0] at g2
      exact g2.keep (get_app h3) hne
    · have sq := sz_divInt (a := at_) (b := b) (n := 44) (m := 44) (by omega) (by unfold Bd; omega) (by unfold Bd; omega)
      refine ⟨hr.snoc hlt, hs.snoc sq, ?_, fun i hi => ?_⟩
      · have : (k + 1) * 10 ^ 11 = k * 10 ^ 11 + 10 ^ 11 := Nat.succ_mul _ _
        omega
      · have q : Rat.divInt at_ b < Rat.divInt (at_ + 1 + d) b := divInt_lt hb0 hb0 (Int.mul_lt_mul_of_pos_right (by omega) hb0)
        simp at hi
        by_cases e : i = ps.length
        · subst e; rw [at0_snoc_eq]; exact q
        · rw [at0_snoc_lt (by omega)]
          have := hlt i (by omega)
          grind
  · obtain ⟨ps, at_, ⟨v4, rfl⟩, h1, g1, p1, hl, hr, hs, hab, hlt⟩ := hI
    exact h ps _ L1 h1 g1 p1 (by simpa using hl) hr hs ⟨_, _, rfl⟩
local macro_rules
  | `(tactic| size_fits) => `(tactic| first
    | assumption
    | exact sz0
    | exact sz1
    | (refine Fit.le (by size_fits) ?_; first | decide | omega)
    | (refine Sz.add ?_ ?_ <;> size_fits)
    | (refine Sz.sub ?_ ?_ <;> size_fits)
    | (refine Sz.mul ?_ ?_ <;> size_fits)
    | (refine Sz.neg ?_ <;> size_fits)
    | (refine Sz.abs ?_ <;> size_fits)
    | (refine sz_at0 ?_ _ <;> size_fits))
/-! ## levers -/
def apN (xs : List Rat) (k : Nat) : Nat → Rat
  | 0 => 1
  | j + 1 => if j = k then apN xs k j else apN xs k j * (at0 xs k - at0 xs j)
def lev (xs : List Rat) (k : Nat) : Rat := 1 / apN xs k xs.length
def levs (xs : List Rat) : List Rat := (List.range xs.length).map (lev xs)
theorem apN_ne {xs : List Rat} (h : Dis xs) {k : Nat} (hk : k < xs.length) : ∀ j, j ≤ xs.length → apN xs k j ≠ 0
  | 0, _ => by rw [apN]; decide
  | j + 1, hj => by
    have ih := apN_ne h hk j (by omega)
    rw [apN]
    by_cases e : j = k
    · rw [if_pos e]; exact ih
    · rw [if_neg e]
      intro z
      rcases Rat.mul_eq_zero.mp z with z | z
      · exact ih z
      · exact h k j hk (by omega) (Ne.symm e) (by grind)
theorem apN_sz {N : Nat} {xs : List Rat} (h : SzP N xs) (k : Nat) : ∀ j, Sz (j * (2 * N + 3) + 1) (apN xs k j)
  | 0 => by rw [apN]; exact sz1.mono (by omega)
  | j + 1 => by
    have ih := apN_sz h k j
    rw [apN, Nat.succ_mul]
    split
    · exact ih.mono (by omega)
    · exact (ih.mul ((sz_at0 h k).sub (sz_at0 h j))).mono (by omega)
theorem lev_sz {N : Nat} {xs : List Rat} (h : SzP N xs) (hd : Dis xs) {k : Nat} (hk : k < xs.length) : Sz (xs.length * (2 * N + 3) + 2) (lev xs k) := (sz1.div (apN_sz h k _) (apN_ne hd hk _ (Nat.le_refl _))).mono (by omega)
theorem levs_sz {N : Nat} {xs : List Rat} (h : SzP N xs) (hd : Dis xs) : SzP (xs.length * (2 * N + 3) + 2) (levs xs) := fun p hp => by
  obtain ⟨k, hk, rfl⟩ := List.mem_map.mp hp
  exact lev_sz h hd (by simpa using hk)
@[simp] theorem levs_len (xs : List Rat) : (levs xs).length = xs.length := by simp [levs]
theorem levs_at {xs : List Rat} {k : Nat} (hk : k < xs.length) : at0 (levs xs) k = lev xs k := at0_map hk
/-- lists of fractions: a tuple, or a list of the cells -/
theorem SeqF.app {L X : Lh} {ps : List Rat} {x : D} (s : SeqF L ps x) : SeqF (L ++ X) ps x := by
  cases s with
  | tup => exact .tup
  | lst h => exact .lst (get_app h)
theorem SeqF.en {L : Lh} {ps : List Rat} {x : D} (s : SeqF L ps x) : ∃ chk : Lh → Prop, enR x L = .val ⟨enumD (ps.map fr), chk⟩ L ∧ chk L := by
  cases s with
  | tup => exact ⟨_, enR_pol, trivial⟩
  | lst h => exact ⟨_, enR_loc h, h⟩
theorem SeqF.ix {L : Lh} {ps : List Rat} {x : D} {k : Nat} (s : SeqF L ps x) (hk : k < ps.length) : fIx x (.int k) L = .val (fr (at0 ps k)) L := by
  cases s with
  | tup => exact fIx_pol rfl hk
  | lst h => exact fIx_frs h rfl hk
theorem SeqF.len {L : Lh} {ps : List Rat} {x : D} (s : SeqF L ps x) : fLen [x] L = .val (.int ps.length) L := by
  have := s.items
  simp [this]
theorem fn_lever_eq {L : Lh} {N : Nat} {xs : List Rat} {x : D} {k : Nat} (s : SeqF L xs x) (h : SzP N xs) (hd : Dis xs) (hk : k < xs.length) (hs : (xs.length + 1) * (2 * N + 3) + 2 ≤ LIM) : fn_lever [x, .int k] L = .val (fr (lev xs k)) L := by
  obtain ⟨chk, en, c⟩ := s.en
  have ix := s.ix hk
  rw [Nat.succ_mul] at hs
  apply wpR.eq
  unfold fn_lever d_lever
  refine wp_run rfl ?_
  simp [k1, en]
  refine wp_for (fun j Γ L' => (∃ v3 v4, Γ = [some x, some (.int k), some (fr (apN xs k j)), v3, v4]) ∧ L' = L) ⟨⟨_, _, rfl⟩, rfl⟩ (fun _ _ _ _ h => h.2 ▸ c) (fun j hj Γ L' J hJ hI => ?_) (fun Γ L' hI => ?_)
  · obtain ⟨⟨v3, v4, rfl⟩, rfl⟩ := hI
    have hj' : j < xs.length := by simpa using hj
    have ea : at0 xs j = xs[j] := at0_lt hj'
    have sj := apN_sz h k j
    have hm : j * (2 * N + 3) ≤ xs.length * (2 * N + 3) := Nat.mul_le_mul (by omega) (Nat.le_refl _)
    simp only [enumD_get, List.getElem_map, ← ea]
    simp
    by_cases e : j = k
    · subst e
      simp
      exact hJ _ _ ⟨⟨_, _, by rw [apN, if_pos rfl]⟩, rfl⟩
    · have e2 : ¬ ((j : Int) = (k : Int)) := by omega
      have z1 := fn_less_eq L' (Fit.of (sz_at0 h k) (by omega)) (Fit.of (sz_at0 h j) (by omega))
      have z2 := fn_times_eq L' (Fit.of sj (by omega)) (Fit.of ((sz_at0 h k).sub (sz_at0 h j)) (by omega))
      simp [e2, ix, z1, z2, -fIx]
      exact hJ _ _ ⟨⟨_, _, by rw [apN, if_neg e]⟩, rfl⟩
  · obtain ⟨⟨v3, v4, rfl⟩, rfl⟩ := hI
    have z := fn_over_eq L' fit1 (Fit.of (apN_sz h k xs.length) (by omega)) (apN_ne hd hk _ (Nat.le_refl _))
    simp [k1, z, lev]
theorem fn_levers_eq {L : Lh} {N : Nat} {xs : List Rat} {x : D} (s : SeqF L xs x) (h : SzP N xs) (hd : Dis xs) (hl : xs.length ≤ 1000) (hs : (xs.length + 1) * (2 * N + 3) + 2 ≤ LIM) : fn_levers [x] L = .val (.loc L.length) (L ++ [.lst ((levs xs).map fr)]) := by
  have key : wpR (fn_levers [x] L) (fun d L' => d = .loc L.length ∧ L' = L ++ [.lst ((levs xs).map fr)]) noE := by
    unfold fn_levers d_levers
    refine wp_run rfl ?_
    simp [s.len, show xs.length ≤ 1000000 by omega, -fLen]
    refine wp_lcMap (fun k => fr (lev xs k)) (by simp; omega) (fun _ => trivial) (fun i hi acc => ?_) ?_
    · have z := fn_lever_eq (s.app (X := [.lst acc])) h hd (k := i) (by simpa using hi) hs
      simp [z]
    · have e : (List.range (rngD 0 xs.length).length).map (fun k => fr (lev xs k)) = (levs xs).map fr := by simp [levs]
      rw [e]
      simp [encF.clos, -List.map_map]
      rw [wp_truncN (closeds_frs _ _)]
      exact ⟨rfl, rfl⟩
  obtain ⟨d, L', e, rfl, rfl⟩ := key.ex
  exact e
/-- the worths, each times its lever, together -/
def wsN (xs ys : List Rat) : Nat → Rat
  | 0 => 0
  | j + 1 => wsN xs ys j + lev xs j * at0 ys j
def wsum (xs ys : List Rat) : Rat := wsN xs ys xs.length
theorem wsN_sz {N M : Nat} {xs ys : List Rat} (h : SzP N xs) (hy : SzP M ys) (hd : Dis xs) : ∀ j, j ≤ xs.length → Sz (j * (xs.length * (2 * N + 3) + M + 4) + 1) (wsN xs ys j)
  | 0, _ => by rw [wsN]; exact sz0.mono (by omega)
  | j + 1, hj => by
    have ih := wsN_sz h hy hd j (by omega)
    rw [wsN, Nat.succ_mul]
    exact (ih.add ((lev_sz h hd (by omega)).mul (sz_at0 hy j))).mono (by omega)
theorem fn_weighed_eq {L : Lh} {N M n m : Nat} {xs ys : List Rat} (hx : L[n]? = some (.lst (xs.map fr))) (hy0 : L[m]? = some (.lst (ys.map fr))) (h : SzP N xs) (hy : SzP M ys) (hd : Dis xs) (hl : xs.length ≤ 1000) (hly : ys.length = xs.length)
    (hs : (xs.length + 1) * (xs.length * (2 * N + 3) + M + 4) + 2 * N + 10 ≤ LIM) : fn_weighed [.loc n, .loc m] L = .val (fr (wsum xs ys)) L := by
  rw [Nat.succ_mul] at hs
  have lv := fn_levers_eq (.lst hx) h hd hl (by rw [Nat.succ_mul]; omega)
  apply wpR.eq
  unfold fn_weighed d_weighed
  refine wp_run rfl ?_
  simp [k0, lv, -List.map_map]
  generalize hL1 : L ++ [Cell.lst ((levs xs).map fr)] = L1
  have h1 : L1[L.length]? = some (.lst ((levs xs).map fr)) := by rw [← hL1]; simp
  have h2 : L1[m]? = some (.lst (ys.map fr)) := by rw [← hL1]; exact get_app hy0
  simp [zpR_loc h1 h2]
  refine wp_for (fun j Γ L' => (∃ v3 v4, Γ = [some (.loc n), some (.loc m), some (fr (wsN xs ys j)), v3, v4]) ∧ L' = L1) ⟨⟨_, _, rfl⟩, rfl⟩ (fun _ _ _ _ h => h.2 ▸ ⟨h1, h2⟩) (fun j hj Γ L' J hJ hI => ?_) (fun Γ L' hI => ?_)
  · obtain ⟨⟨v3, v4, rfl⟩, rfl⟩ := hI
    have hj' : j < xs.length := by simp at hj; omega
    have ea : at0 ys j = ys[j]'(by omega) := at0_lt (by omega)
    have el : (levs xs)[j]'(by simp; omega) = lev xs j := by simp [levs]
    have sl := lev_sz h hd hj'
    have hm : j * (xs.length * (2 * N + 3) + M + 4) ≤ xs.length * (xs.length * (2 * N + 3) + M + 4) := Nat.mul_le_mul (by omega) (Nat.le_refl _)
    have z1 := fn_times_eq L' (Fit.of sl (by omega)) (Fit.of (sz_at0 hy j) (by omega))
    have z2 := fn_plus_eq L' (Fit.of (wsN_sz h hy hd j (by omega)) (by omega)) (Fit.of (sl.mul (sz_at0 hy j)) (by omega))
    simp only [zipD_get, List.getElem_map, ← ea, el]
    simp [z1, z2]
    exact hJ _ _ ⟨⟨_, _, rfl⟩, rfl⟩
  · obtain ⟨⟨v3, v4, rfl⟩, rfl⟩ := hI
    have e : (zipD ((levs xs).map fr) (ys.map fr)).length = xs.length := by simp; omega
    simp only [e]
    simp [← hL1, wsum]
/-! ## sums -/
def sumN (f : Nat → Rat) : Nat → Rat
  | 0 => 0
  | n + 1 => sumN f n + f n
theorem sumN_congr {f g : Nat → Rat} : ∀ {n : Nat}, (∀ k, k < n → f k = g k) → sumN f n = sumN g n
  | 0, _ => rfl
  | n + 1, h => by rw [sumN, sumN, sumN_congr fun k hk => h k (by omega), h n (by omega)]
theorem sumN_add (f g : Nat → Rat) : ∀ n, sumN (fun k => f k + g k) n = sumN f n + sumN g n
  | 0 => by rw [sumN, sumN, sumN]; grind
  | n + 1 => by rw [sumN, sumN, sumN, sumN_add f g n]; grind
theorem sumN_sub (f g : Nat → Rat) : ∀ n, sumN (fun k => f k - g k) n = sumN f n - sumN g n
  | 0 => by rw [sumN, sumN, sumN]; grind
  | n + 1 => by rw [sumN, sumN, sumN, sumN_sub f g n]; grind
theorem sumN_mul (c : Rat) (f : Nat → Rat) : ∀ n, sumN (fun k => c * f k) n = c * sumN f n
  | 0 => by rw [sumN, sumN]; grind
  | n + 1 => by rw [sumN, sumN, sumN_mul c f n]; grind
theorem sumN_zero : ∀ n, sumN (fun _ => 0) n = 0
  | 0 => rfl
  | n + 1 => by rw [sumN, sumN_zero n]; grind
theorem sumN_le {f g : Nat → Rat} : ∀ {n : Nat}, (∀ k, k < n → f k ≤ g k) → sumN f n ≤ sumN g n
  | 0, _ => Rat.le_refl
  | n + 1, h => by
    have h1 := sumN_le (n := n) fun k hk => h k (by omega)
    have h2 := h n (by omega)
    rw [sumN, sumN]; grind
theorem sumN_lt {f g : Nat → Rat} {n j : Nat} (h : ∀ k, k < n → f k ≤ g k) (hj : j < n) (hs : f j < g j) : sumN f n < sumN g n := by
  induction n with
  | zero => omega
  | succ n ih =>
    rw [sumN, sumN]
    by_cases e : j = n
    · subst e
      have h1 := sumN_le (n := j) fun k hk => h k (by omega)
      grind
    · have h1 := ih (fun k hk => h k (by omega)) (by omega)
      have h2 := h n (by omega)
      grind
theorem sumN_pos {f : Nat → Rat} {n : Nat} (h : ∀ k, k < n → 0 < f k) (hn : 0 < n) : 0 < sumN f n := by
  have := sumN_lt (f := fun _ => 0) (g := f) (j := 0) (n := n) (fun k hk => Rat.le_of_lt (h k hk)) hn (h 0 hn)
  rwa [sumN_zero] at this
theorem sumN_nonneg {f : Nat → Rat} {n : Nat} (h : ∀ k, k < n → 0 ≤ f k) : 0 ≤ sumN f n := by
  have := sumN_le (f := fun _ => 0) (g := f) (n := n) h
  rwa [sumN_zero] at this
/-- one term apart -/
theorem sumN_one {f : Nat → Rat} {n j : Nat} (hj : j < n) (h : ∀ k, k < n → k ≠ j → f k = 0) : sumN f n = f j := by
  induction n with
  | zero => omega
  | succ n ih =>
    rw [sumN]
    by_cases e : j = n
    · subst e
      rw [sumN_congr (g := fun _ => 0) (fun k hk => h k (by omega) (by omega)), sumN_zero]; grind
    · rw [ih (by omega) (fun k hk => h k (by omega)), h n (by omega) (Ne.symm e)]; grind
theorem sumN_sz {b : Nat} {f : Nat → Rat} : ∀ {n : Nat}, (∀ k, k < n → Sz b (f k)) → Sz (n * (b + 1) + 1) (sumN f n)
  | 0, _ => by rw [sumN]; exact sz0.mono (by omega)
  | n + 1, h => by
    have ih := sumN_sz (n := n) fun k hk => h k (by omega)
    rw [sumN, Nat.succ_mul]
    exact (ih.add (h n (by omega))).mono (by omega)
theorem sum8 {n b c : Nat} (hn : n ≤ 8) (h : 8 * b + 1 ≤ c) : n * b + 1 ≤ c := by
  have := Nat.mul_le_mul hn (Nat.le_refl b); omega
/-! ## products of roots -/
/-- ps times (x less a) -/
def mulLin (ps : List Rat) (a : Rat) : List Rat := (List.range (ps.length + 1)).map fun k => (if k = 0 then 0 else at0 ps (k - 1)) - a * at0 ps k
@[simp] theorem mulLin_len (ps : List Rat) (a : Rat) : (mulLin ps a).length = ps.length + 1 := by simp [mulLin]
theorem at0_mulLin (ps : List Rat) (a : Rat) (k : Nat) : at0 (mulLin ps a) k = (if k = 0 then 0 else at0 ps (k - 1)) - a * at0 ps k := by
  by_cases h : k < ps.length + 1
  · exact at0_map h
  · rw [at0_ge (by simp; omega), at0_ge (ps := ps) (k := k) (by omega), at0_ge (ps := ps) (k := k - 1) (by omega)]
    split <;> grind
theorem evp_mulLin (ps : List Rat) (a x : Rat) : ∀ n, evp (mulLin ps a) x (n + 1) = evp ps x n * (x - a) - a * (at0 ps n * x ^ n)
  | 0 => by
    rw [evp, evp, evp, at0_mulLin, if_pos rfl]
    rw [Rat.pow_zero]; grind
  | n + 1 => by
    rw [evp, evp_mulLin ps a x n, at0_mulLin, if_neg (by omega), evp, Rat.pow_succ, Nat.add_sub_cancel]; grind
theorem ev_mulLin (ps : List Rat) (a x : Rat) : ev (mulLin ps a) x = ev ps x * (x - a) := by
  rw [← evp_len, mulLin_len, evp_mulLin, evp_len, at0_ge (Nat.le_refl _)]; grind
def rootsP : List Rat → List Rat
  | [] => [1]
  | a :: r => mulLin (rootsP r) a
theorem rootsP_len : ∀ rs, (rootsP rs).length = rs.length + 1
  | [] => rfl
  | a :: r => by rw [rootsP, mulLin_len, rootsP_len r]; rfl
theorem rootsP_top : ∀ rs, at0 (rootsP rs) rs.length = 1
  | [] => rfl
  | a :: r => by
    rw [rootsP, List.length_cons, at0_mulLin, if_neg (by omega), Nat.add_sub_cancel, rootsP_top r, at0_ge (by rw [rootsP_len]; omega)]; grind
theorem ev_rootsP_mem {rs : List Rat} {a : Rat} (h : a ∈ rs) : ev (rootsP rs) a = 0 := by
  induction rs with
  | nil => simp at h
  | cons b r ih =>
    rw [rootsP, ev_mulLin]
    rcases List.mem_cons.mp h with rfl | h
    · grind
    · rw [ih h]; grind
theorem ev_rootsP_ne {rs : List Rat} {a : Rat} (h : a ∉ rs) : ev (rootsP rs) a ≠ 0 := by
  induction rs with
  | nil => rw [rootsP, ev_cons, ev_nil]; grind
  | cons b r ih =>
    rw [rootsP, ev_mulLin]
    simp at h
    intro z
    rcases Rat.mul_eq_zero.mp z with z | z
    · exact ih h.2 z
    · exact h.1 (by grind)
/-! ## the numbers but one -/
def butK (xs : List Rat) (k : Nat) : Nat → List Rat
  | 0 => []
  | j + 1 => if j = k then butK xs k j else at0 xs j :: butK xs k j
theorem ev_but (xs : List Rat) (k : Nat) : ∀ j, ev (rootsP (butK xs k j)) (at0 xs k) = apN xs k j
  | 0 => by rw [butK, rootsP, ev_cons, ev_nil, apN]; grind
  | j + 1 => by
    rw [butK, apN]
    by_cases e : j = k
    · rw [if_pos e, if_pos e, ev_but xs k j]
    · rw [if_neg e, if_neg e, rootsP, ev_mulLin, ev_but xs k j]
theorem butK_len (xs : List Rat) (k : Nat) : ∀ j, (butK xs k j).length = if k < j then j - 1 else j
  | 0 => by simp [butK]
  | j + 1 => by
    rw [butK]
    have ih := butK_len xs k j
    by_cases e : j = k
    · rw [if_pos e, ih]; split <;> split <;> omega
    · rw [if_neg e, List.length_cons, ih]; split <;> split <;> omega
theorem mem_butK {xs : List Rat} {k i : Nat} (hik : i ≠ k) : ∀ {j}, i < j → at0 xs i ∈ butK xs k j
  | j + 1, h => by
    rw [butK]
    by_cases e : j = k
    · rw [if_pos e]; exact mem_butK hik (by omega)
    · rw [if_neg e]
      by_cases e2 : i = j
      · subst e2; simp
      · exact List.mem_cons_of_mem _ (mem_butK hik (by omega))
/-- Lagrange's polynomial, j terms -/
def lagP (xs ys : List Rat) (n : Nat) : Nat → List Rat
  | 0 => List.replicate n 0
  | j + 1 => (List.range n).map fun i => at0 (lagP xs ys n j) i + lev xs j * at0 ys j * at0 (rootsP (butK xs j xs.length)) i
theorem lagP_len (xs ys : List Rat) (n : Nat) : ∀ j, (lagP xs ys n j).length = n
  | 0 => by simp [lagP]
  | j + 1 => by simp [lagP]
theorem lagP_at (xs ys : List Rat) {n i : Nat} (hi : i < n) : ∀ j, at0 (lagP xs ys n j) i = sumN (fun j => lev xs j * at0 ys j * at0 (rootsP (butK xs j xs.length)) i) j
  | 0 => by rw [lagP, at0_lt (by simpa using hi), sumN]; simp
  | j + 1 => by rw [lagP, at0_map hi, sumN, lagP_at xs ys hi j]
theorem evp_lin {a b c : List Rat} {u x : Rat} : ∀ {N : Nat}, (∀ k, k < N → at0 c k = at0 a k + u * at0 b k) → evp c x N = evp a x N + u * evp b x N
  | 0, _ => by rw [evp, evp, evp]; grind
  | N + 1, h => by rw [evp, evp, evp, evp_lin fun k hk => h k (by omega), h N (by omega)]; grind
theorem ev_lagP (xs ys : List Rat) {n : Nat} (hn : xs.length ≤ n) (x : Rat) : ∀ j, j ≤ xs.length → ev (lagP xs ys n j) x = sumN (fun j => lev xs j * at0 ys j * ev (rootsP (butK xs j xs.length)) x) j
  | 0, _ => by
    rw [lagP, sumN, ← evp_len, evp_zero]
  | j + 1, hj => by
    have hb : (rootsP (butK xs j xs.length)).length ≤ n := by
      rw [rootsP_len, butK_len, if_pos (by omega)]; omega
    rw [sumN, ← ev_lagP xs ys hn x j (by omega), lagP, ← evp_len, List.length_map, List.length_range]
    rw [evp_lin (a := lagP xs ys n j) (b := rootsP (butK xs j xs.length)) (u := lev xs j * at0 ys j) (fun k hk => at0_map hk), evp_ge' hb, evp_ge' (by rw [lagP_len]; exact Nat.le_refl _)]
theorem Dis.nodup {xs : List Rat} (h : Dis xs) : xs.Nodup := by
  rw [List.nodup_iff_pairwise_ne, List.pairwise_iff_getElem]
  intro i j hi hj hij
  have := h i j hi hj (by omega)
  rwa [at0_lt hi, at0_lt hj] at this
/-- Lagrange passes -/
theorem lagP_pass {xs ys : List Rat} (hd : Dis xs) {k : Nat} (hk : k < xs.length) : ev (lagP xs ys xs.length xs.length) (at0 xs k) = at0 ys k := by
  rw [ev_lagP xs ys (Nat.le_refl _) _ _ (Nat.le_refl _), sumN_one hk (fun j hj hjk => by rw [ev_rootsP_mem (mem_butK (Ne.symm hjk) hk)]; grind), ev_but]
  have h0 := apN_ne hd hk xs.length (Nat.le_refl _)
  unfold lev
  grind
theorem wsN_sum (xs ys : List Rat) : ∀ j, wsN xs ys j = sumN (fun j => lev xs j * at0 ys j) j
  | 0 => rfl
  | j + 1 => by rw [wsN, sumN, wsN_sum xs ys j]
theorem wsum_sum (xs ys : List Rat) : wsum xs ys = sumN (fun j => lev xs j * at0 ys j) xs.length := wsN_sum xs ys _
theorem lagP_top {xs ys : List Rat} (h : 0 < xs.length) : at0 (lagP xs ys xs.length xs.length) (xs.length - 1) = wsum xs ys := by
  rw [lagP_at xs ys (by omega), wsum_sum]
  refine sumN_congr fun j hj => ?_
  have e : (butK xs j xs.length).length = xs.length - 1 := by rw [butK_len, if_pos hj]
  have := rootsP_top (butK xs j xs.length)
  rw [e] at this
  rw [this]; grind
theorem at0_trim : ∀ (ps : List Rat) (k : Nat), at0 (trim ps) k = at0 ps k
  | [], _ => rfl
  | c :: r, k => by
    have ih := at0_trim r
    rw [trim]
    split
    · rename_i e
      have z : ∀ j, at0 r j = 0 := fun j => by rw [← ih j, e]; rfl
      split
      · rename_i h0
        cases k with
        | zero => rw [at0_cons_zero, h0]; rfl
        | succ k => rw [at0_cons_succ, z]; rfl
      · cases k with
        | zero => rfl
        | succ k => rw [at0_cons_succ, at0_cons_succ, z]; rfl
    · rename_i d s e
      cases k with
      | zero => rfl
      | succ k => rw [at0_cons_succ, at0_cons_succ, ← ih k, e]
/-- the worths of a polynomial, weighed: its fraction at the last place -/
theorem wsum_ev {xs ps ys : List Rat} (hd : Dis xs) (hl : ps.length ≤ xs.length) (h0 : 0 < xs.length) (hy : ∀ k, k < xs.length → at0 ys k = ev ps (at0 xs k)) : wsum xs ys = at0 ps (xs.length - 1) := by
  have e : trim ps = trim (lagP xs ys xs.length xs.length) := by
    refine ev_ext_at hd.nodup hl (by rw [lagP_len]; exact Nat.le_refl _) fun x hx => ?_
    obtain ⟨k, hk, rfl⟩ := List.mem_iff_getElem.mp hx
    rw [← at0_lt hk, lagP_pass hd hk, hy k hk]
  rw [← lagP_top h0, ← at0_trim, ← e, at0_trim]
theorem rat_sides {q : Rat} (h : q ≠ 0) : q < 0 ∨ 0 < q := by
  by_cases h1 : 0 < q
  · exact .inr h1
  · exact .inl (by grind)
/-! ## signs -/
def sg (k : Nat) : Rat := if k % 2 = 0 then 1 else -1
theorem sg_succ (k : Nat) : sg (k + 1) = - sg k := by
  unfold sg
  rcases Nat.mod_two_eq_zero_or_one k with h | h
  · rw [if_neg (by omega), if_pos h]
  · rw [if_pos (by omega), if_neg (by omega)]; grind
theorem sg_sq (k : Nat) : sg k * sg k = 1 := by unfold sg; split <;> grind
theorem sg_add (j k : Nat) : sg (j + k) = sg j * sg k := by
  induction k with
  | zero => rw [Nat.add_zero]; unfold sg; simp; try grind
  | succ k ih => rw [← Nat.add_assoc, sg_succ, sg_succ, ih]; grind
/-- of rising numbers: above 0 by turns, the last one above -/
theorem apN_sign {xs : List Rat} (hr : Rise xs) {k : Nat} (hk : k < xs.length) : ∀ j, j ≤ xs.length → 0 < apN xs k j * (if j ≤ k then 1 else sg (j - 1 - k))
  | 0, _ => by rw [apN, if_pos (by omega)]; grind
  | j + 1, hj => by
    have ih := apN_sign hr hk j (by omega)
    rw [apN]
    by_cases e : j = k
    · subst e
      rw [if_pos rfl, if_neg (by omega), show j + 1 - 1 - j = 0 by omega]
      rw [if_pos (Nat.le_refl _)] at ih
      have : sg 0 = 1 := rfl
      rw [this]; exact ih
    · rw [if_neg e]
      by_cases h2 : j + 1 ≤ k
      · rw [if_pos h2]
        rw [if_pos (by omega)] at ih
        have h3 := hr j k (by omega) hk
        have h4 : 0 < apN xs k j := by grind
        have h5 : 0 < at0 xs k - at0 xs j := by grind
        have := Rat.mul_pos h4 h5
        grind
      · rw [if_neg h2]
        rw [if_neg (by omega)] at ih
        have h3 := hr k j (by omega) (by omega)
        have h5 : 0 < at0 xs j - at0 xs k := by grind
        have := Rat.mul_pos ih h5
        have e2 : j + 1 - 1 - k = (j - 1 - k) + 1 := by omega
        rw [e2, sg_succ]
        grind
theorem lev_sign {xs : List Rat} (hr : Rise xs) {k : Nat} (hk : k < xs.length) : 0 < lev xs k * sg (xs.length - 1 - k) := by
  have h := apN_sign hr hk xs.length (Nat.le_refl _)
  rw [if_neg (by omega)] at h
  have h0 := apN_ne hr.dis hk xs.length (Nat.le_refl _)
  unfold lev
  generalize apN xs k xs.length = a at *
  have hs := sg_sq (xs.length - 1 - k)
  generalize sg (xs.length - 1 - k) = s at *
  have e : 1 / a * s = (a * s) * ((1 / a) * (1 / a)) := by grind
  rw [e]
  refine Rat.mul_pos h ?_
  have : (1 / a) ≠ 0 := fun z => by
    have e2 : 1 / a * a = 1 := by grind
    rw [z] at e2; grind
  rcases rat_sides this with q | q
  · have := Rat.mul_pos (show 0 < -(1 / a) by grind) (show 0 < -(1 / a) by grind)
    grind
  · exact Rat.mul_pos q q
theorem rabs_nonneg (q : Rat) : 0 ≤ rabs q := by unfold rabs; split <;> grind
theorem rabs_mul_sg (q : Rat) (k : Nat) (h : 0 < q * sg k) : rabs q = q * sg k := by
  unfold rabs sg at *
  split <;> split at h <;> rename_i a b <;> simp only [b, if_true, if_false] at * <;> grind
theorem lev_abs {xs : List Rat} (hr : Rise xs) {k : Nat} (hk : k < xs.length) : rabs (lev xs k) = lev xs k * sg (xs.length - 1 - k) := rabs_mul_sg _ _ (lev_sign hr hk)
/-! ## through pairs -/
def prD (p : Rat × Rat) : D := .tup [fr p.1, fr p.2]
def pxs (ps : List (Rat × Rat)) : List Rat := ps.map (·.1)
def pys (ps : List (Rat × Rat)) : List Rat := ps.map (·.2)
@[simp] theorem pxs_len (ps : List (Rat × Rat)) : (pxs ps).length = ps.length := by simp [pxs]
@[simp] theorem pys_len (ps : List (Rat × Rat)) : (pys ps).length = ps.length := by simp [pys]
theorem pxs_at {ps : List (Rat × Rat)} {k : Nat} (h : k < ps.length) : at0 (pxs ps) k = ps[k].1 := by rw [at0_lt (by simpa using h)]; simp [pxs]
theorem pys_at {ps : List (Rat × Rat)} {k : Nat} (h : k < ps.length) : at0 (pys ps) k = ps[k].2 := by rw [at0_lt (by simpa using h)]; simp [pys]
def thr (ps : List (Rat × Rat)) : Nat → List Rat × List Rat
  | 0 => ([], [1])
  | i + 1 => (psum (thr ps i).1 (pscale (thr ps i).2 ((at0 (pys ps) i - ev (thr ps i).1 (at0 (pxs ps) i)) / ev (thr ps i).2 (at0 (pxs ps) i))), pmul (thr ps i).2 [-(at0 (pxs ps) i), 1])
def through (ps : List (Rat × Rat)) : List Rat := (thr ps ps.length).1
/-- the first numbers, the last of them first -/
def revN (xs : List Rat) : Nat → List Rat
  | 0 => []
  | i + 1 => at0 xs i :: revN xs i
theorem revN_len (xs : List Rat) : ∀ i, (revN xs i).length = i
  | 0 => rfl
  | i + 1 => by rw [revN, List.length_cons, revN_len xs i]
theorem mem_revN {xs : List Rat} {a : Rat} : ∀ {i}, a ∈ revN xs i ↔ ∃ j, j < i ∧ a = at0 xs j
  | 0 => by simp [revN]
  | i + 1 => by
    rw [revN, List.mem_cons, mem_revN]
    constructor
    · rintro (h | ⟨j, h1, h2⟩)
      · exact ⟨i, by omega, h⟩
      · exact ⟨j, by omega, h2⟩
    · rintro ⟨j, h1, h2⟩
      by_cases e : j = i
      · subst e; exact .inl h2
      · exact .inr ⟨j, by omega, h2⟩
theorem trim_one : trim [1] = [1] := by rw [trim]; simp [trim]
theorem trim_of_top {ps : List Rat} {n : Nat} (hl : ps.length = n + 1) (h : at0 ps n ≠ 0) : trim ps = ps := by
  rcases List.eq_nil_or_concat ps with rfl | ⟨r, q, rfl⟩
  · simp at hl
  · rw [List.concat_eq_append] at *
    have hr : r.length = n := by simpa using hl
    subst hr
    exact trim_snoc (by rwa [at0_lt (by simp), show (r ++ [q])[r.length] = q by simp] at h) r
theorem trim_rootsP (rs : List Rat) : trim (rootsP rs) = rootsP rs := trim_of_top (rootsP_len rs) (by rw [rootsP_top]; decide)
theorem thr_roots (ps : List (Rat × Rat)) : ∀ i, (thr ps i).2 = rootsP (revN (pxs ps) i)
  | 0 => rfl
  | i + 1 => by
    have e : ∀ x, ev (thr ps (i + 1)).2 x = ev (rootsP (revN (pxs ps) (i + 1))) x := fun x => by
      rw [thr, revN, rootsP, ev_mulLin, ev_pmul, thr_roots ps i, ev_cons, ev_cons, ev_nil]; grind
    have h := ev_ext e
    rw [trim_rootsP] at h
    rw [← h, thr]
    exact (trim_trim _).symm
theorem trim_thr (ps : List (Rat × Rat)) : ∀ i, trim (thr ps i).1 = (thr ps i).1
  | 0 => rfl
  | i + 1 => by rw [thr]; exact trim_trim _
theorem psum_len (a b : List Rat) : (psum a b).length ≤ max a.length b.length := by
  have := trim_len ((List.range (max a.length b.length)).map fun k => at0 a k + at0 b k)
  simpa [psum] using this
theorem pscale_len (a : List Rat) (g : Rat) : (pscale a g).length ≤ a.length := by
  have := trim_len (a.map (· * g)); simpa [pscale] using this
theorem thr_len (ps : List (Rat × Rat)) : ∀ i, (thr ps i).1.length ≤ i
  | 0 => by simp [thr]
  | i + 1 => by
    have ih := thr_len ps i
    have h1 := psum_len (thr ps i).1 (pscale (thr ps i).2 ((at0 (pys ps) i - ev (thr ps i).1 (at0 (pxs ps) i)) / ev (thr ps i).2 (at0 (pxs ps) i)))
    have h2 := pscale_len (thr ps i).2 ((at0 (pys ps) i - ev (thr ps i).1 (at0 (pxs ps) i)) / ev (thr ps i).2 (at0 (pxs ps) i))
    have h3 : (thr ps i).2.length = i + 1 := by rw [thr_roots, rootsP_len, revN_len]
    rw [thr]
    show (psum _ _).length ≤ _
    omega
/-- the first i numbers are unlike -/
def DisN (xs : List Rat) (i : Nat) : Prop := ∀ a b, a < i → b < i → a ≠ b → at0 xs a ≠ at0 xs b
theorem DisN.mono {xs : List Rat} {i j : Nat} (h : DisN xs i) (hj : j ≤ i) : DisN xs j := fun a b ha hb => h a b (by omega) (by omega)
theorem steep_ne {ps : List (Rat × Rat)} {i : Nat} (hd : DisN (pxs ps) (i + 1)) : ev (thr ps i).2 (at0 (pxs ps) i) ≠ 0 := by
  rw [thr_roots]
  refine ev_rootsP_ne fun h => ?_
  obtain ⟨j, h1, h2⟩ := mem_revN.mp h
  exact hd j i (by omega) (by omega) (by omega) h2.symm
theorem thr_pass {ps : List (Rat × Rat)} : ∀ {i}, DisN (pxs ps) i → ∀ j, j < i → ev (thr ps i).1 (at0 (pxs ps) j) = at0 (pys ps) j
  | i + 1, hd, j, hj => by
    rw [thr, ev_psum, ev_pscale]
    by_cases e : j = i
    · subst e
      have h0 := steep_ne hd
      grind
    · have h1 := thr_pass (hd.mono (show i ≤ i + 1 by omega)) j (by omega)
      have h2 : ev (thr ps i).2 (at0 (pxs ps) j) = 0 := by
        rw [thr_roots]; exact ev_rootsP_mem (mem_revN.mpr ⟨j, by omega, rfl⟩)
      rw [h1, h2]; grind
/-- .. it is Lagrange's -/
theorem at0_take {xs : List Rat} {i k : Nat} (h : k < i) : at0 (xs.take i) k = at0 xs k := by
  unfold at0; simp [h]
theorem thr_lag {ps : List (Rat × Rat)} {i : Nat} (hd : DisN (pxs ps) i) (hi : i ≤ ps.length) : (thr ps i).1 = trim (lagP ((pxs ps).take i) ((pys ps).take i) i i) := by
  have hl : ((pxs ps).take i).length = i := by simp; omega
  have hd2 : Dis ((pxs ps).take i) := fun a b ha hb hab => by
    rw [hl] at ha hb
    rw [at0_take ha, at0_take hb]; exact hd a b ha hb hab
  rw [← trim_thr]
  refine ev_ext_at hd2.nodup (by rw [hl]; exact thr_len ps i) (by rw [hl, lagP_len]; exact Nat.le_refl _) fun x hx => ?_
  obtain ⟨k, hk, rfl⟩ := List.mem_iff_getElem.mp hx
  have hk' : k < i := by rw [hl] at hk; exact hk
  rw [← at0_lt hk]
  have := lagP_pass (ys := (pys ps).take i) hd2 hk
  rw [hl] at this
  rw [this, at0_take hk', at0_take hk']
  exact thr_pass hd k hk'
/-! sizes -/
theorem rootsP_sz {N : Nat} : ∀ {rs : List Rat}, SzP N rs → ∃ s, SzP s (rootsP rs) ∧ s + (N + 3) ≤ 2 ^ rs.length * (N + 4)
  | [], _ => ⟨1, szP_cons sz1 szP_nil, by simp; omega⟩
  | a :: r, h => by
    obtain ⟨s, h1, h2⟩ := rootsP_sz (rs := r) fun p hp => h p (by simp [hp])
    have ha : Sz N a := h a (by simp)
    refine ⟨2 * s + (N + 3), SzP.of_at fun k => ?_, ?_⟩
    · rw [rootsP, at0_mulLin]
      have s1 : Sz (s + 1) (if k = 0 then 0 else at0 (rootsP r) (k - 1)) := by
        split
        · exact sz0.mono (by omega)
        · exact sz_at0 h1 _
      exact (s1.sub (ha.mul (sz_at0 h1 k))).mono (by omega)
    · rw [List.length_cons, Nat.pow_succ, Nat.mul_comm (2 ^ r.length) 2, Nat.mul_assoc]; omega
theorem pow_le2 {a b : Nat} (h : a ≤ b) : 2 ^ a ≤ 2 ^ b := Nat.pow_le_pow_right (by decide) h
theorem rootsP_sz7 {N : Nat} {rs : List Rat} (h : SzP N rs) (hl : rs.length ≤ 7) : SzP (128 * N + 512) (rootsP rs) := by
  obtain ⟨s, h1, h2⟩ := rootsP_sz h
  have := Nat.mul_le_mul (pow_le2 hl) (Nat.le_refl (N + 4))
  exact h1.mono (by omega)
theorem SzP.take {N i : Nat} {ps : List Rat} (h : SzP N ps) : SzP N (ps.take i) := fun p hp => h p (List.mem_of_mem_take hp)
theorem revN_sz {N : Nat} {xs : List Rat} (h : SzP N xs) {i : Nat} (hi : i ≤ xs.length) : SzP N (revN xs i) := fun p hp => by
  obtain ⟨j, h1, rfl⟩ := mem_revN.mp hp
  rw [at0_lt (by omega)]; exact h _ (List.getElem_mem _)
theorem mem_but {xs : List Rat} {k : Nat} : ∀ {j : Nat} {p : Rat}, j ≤ xs.length → p ∈ butK xs k j → p ∈ xs
  | 0, p, _, h => by simp [butK] at h
  | j + 1, p, hj, h => by
    rw [butK] at h
    split at h
    · exact mem_but (by omega) h
    · rcases List.mem_cons.mp h with rfl | h
      · rw [at0_lt (by omega)]; exact List.getElem_mem _
      · exact mem_but (by omega) h
theorem but_sz {N : Nat} {xs : List Rat} (h : SzP N xs) (k : Nat) : SzP N (butK xs k xs.length) := fun p hp => h p (mem_but (Nat.le_refl _) hp)
theorem lagP_sz {N M n : Nat} {xs ys : List Rat} (h : SzP N xs) (hy : SzP M ys) (hd : Dis xs) (hl : xs.length ≤ 8) (hn : n = xs.length) : SzP (1152 * N + 8 * M + 4400) (lagP xs ys n xs.length) := by
  subst hn
  refine SzP.of_at fun i => ?_
  by_cases hi : i < xs.length
  · rw [lagP_at xs ys hi]
    refine (sumN_sz (b := 144 * N + M + 545) fun k hk => ?_).mono (sum8 hl (by omega))
    have h1 := lev_sz h hd hk
    have hm := Nat.mul_le_mul hl (Nat.le_refl (2 * N + 3))
    have h2 := rootsP_sz7 (but_sz h k) (by rw [butK_len, if_pos hk]; omega)
    exact ((h1.mul (sz_at0 hy k)).mul (sz_at0 h2 i)).mono (by omega)
  · rw [at0_ge (by rw [lagP_len]; omega)]; exact sz0.mono (by omega)
theorem thr_sz {N M : Nat} {ps : List (Rat × Rat)} (h : SzP N (pxs ps)) (hy : SzP M (pys ps)) {i : Nat} (hd : DisN (pxs ps) i) (hi : i ≤ ps.length) (hl : ps.length ≤ 8) : SzP (1152 * N + 8 * M + 4400) (thr ps i).1 := by
  have hli : ((pxs ps).take i).length = i := by simp; omega
  have hd2 : Dis ((pxs ps).take i) := fun a b ha hb hab => by
    rw [hli] at ha hb
    rw [at0_take ha, at0_take hb]; exact hd a b ha hb hab
  rw [thr_lag hd hi]
  have := lagP_sz (n := i) (h.take (i := i)) (hy.take (i := i)) hd2 (by omega) hli.symm
  rw [hli] at this
  exact this.trim
/-! ## references -/
def xsO (t : List Spo) : List Rat := t.map (·.x)
def ysO (t : List Spo) : List Rat := t.map (·.y)
def wsO (t : List Spo) : List Rat := t.map (·.w)
@[simp] theorem xsO_len (t : List Spo) : (xsO t).length = t.length := by simp [xsO]
@[simp] theorem ysO_len (t : List Spo) : (ysO t).length = t.length := by simp [ysO]
@[simp] theorem wsO_len (t : List Spo) : (wsO t).length = t.length := by simp [wsO]
theorem xsO_at {t : List Spo} {k : Nat} (h : k < t.length) : at0 (xsO t) k = t[k].x := by rw [at0_lt (by simpa using h)]; simp [xsO]
theorem ysO_at {t : List Spo} {k : Nat} (h : k < t.length) : at0 (ysO t) k = t[k].y := by rw [at0_lt (by simpa using h)]; simp [ysO]
theorem wsO_at {t : List Spo} {k : Nat} (h : k < t.length) : at0 (wsO t) k = t[k].w := by rw [at0_lt (by simpa using h)]; simp [wsO]
/-- sizes of spots -/
def SzT (N : Nat) (t : List Spo) : Prop := ∀ s ∈ t, Sz N s.x ∧ Sz N s.y ∧ Sz N s.w
/-- weights above 0 -/
def WPos (t : List Spo) : Prop := ∀ s ∈ t, 0 < s.w
theorem SzT.xs {N : Nat} {t : List Spo} (h : SzT N t) : SzP N (xsO t) := fun p hp => by
  obtain ⟨s, hs, rfl⟩ := List.mem_map.mp hp; exact (h s hs).1
theorem SzT.ys {N : Nat} {t : List Spo} (h : SzT N t) : SzP N (ysO t) := fun p hp => by
  obtain ⟨s, hs, rfl⟩ := List.mem_map.mp hp; exact (h s hs).2.1
theorem SzT.ws {N : Nat} {t : List Spo} (h : SzT N t) : SzP N (wsO t) := fun p hp => by
  obtain ⟨s, hs, rfl⟩ := List.mem_map.mp hp; exact (h s hs).2.2
theorem SzT.mono {N M : Nat} {t : List Spo} (h : SzT N t) (hm : N ≤ M) : SzT M t := fun s hs => ⟨(h s hs).1.mono hm, (h s hs).2.1.mono hm, (h s hs).2.2.mono hm⟩
theorem range_frs (ps : List Rat) {n : Nat} (h : n = ps.length) : (List.range n).map (fun k => fr (at0 ps k)) = ps.map fr := by
  subst h
  refine List.ext_getElem (by simp) fun i h1 h2 => ?_
  simp [at0_lt (show i < ps.length by simpa using h1)]
/-- [x for x, y, w in t], and so on: parts of the spots -/
theorem wp_parts {L : Lh} {Γ0 : G3} {m : Nat} {t : List Spo} {i j l : Nat} {e : E3} {ps : List Rat} {Q : D → Lh → Prop} {E : Str → Lh → Prop} (h : L[m]? = some (.lst (t.map spD))) (hl : t.length ≤ 1000) (hps : ps.length = t.length)
    (he : ∀ k (hk : k < t.length) L1, wpR (e (((Γ0.set i (some (fr t[k].x))).set j (some (fr t[k].y))).set l (some (fr t[k].w))) L1) (fun y L2 => y = fr (at0 ps k) ∧ L2 = L1) noE) (hn : Q (.loc L.length) (L ++ [.lst (ps.map fr)])) :
    wpR (lcL (fun L' => L'[m]? = some (.lst (t.map spD))) (gT 3 (gCons3 (gN i) (gCons3 (gN j) (gCons3 (gN l) gNil3)))) tTrue e Γ0 L.length (t.map spD) (L ++ [.lst []])) Q E := by
  refine wp_lcMap (fun k => fr (at0 ps k)) (by simp; omega) (fun _ => get_app h) (fun k hk acc => ?_) ?_
  · have hk' : k < t.length := by simpa using hk
    simp only [List.getElem_map]
    simp only [gT_sp, wp_gCons, wp_gN, Po.gs_nx, wp_gNil]
    exact he k hk' _
  · rw [range_frs ps (by simp [hps])]; exact hn
theorem fn_unsigned_eq (L : Lh) (q : Rat) : fn_unsigned [fr q] L = .val (fr (rabs q)) L := by
  apply wpR.eq
  unfold fn_unsigned d_unsigned
  refine wp_run rfl ?_
  simp [fr_abs, abs_if]
theorem fn_opposite_eq (L : Lh) (q : Rat) : fn_opposite [fr q] L = .val (fr (-q)) L := by
  have e : fr (-q) = .tup [.int (-q.num), .int q.den] := by unfold fr; rw [Rat.neg_num, Rat.neg_den]
  apply wpR.eq
  unfold fn_opposite d_opposite
  refine wp_run rfl ?_
  simp [e]
def rmN (t : List Spo) (k : Nat) : Rat := rabs (lev (xsO t) k) / at0 (wsO t) k
def room (t : List Spo) : Rat := sumN (rmN t) t.length
def tilt (t : List Spo) : Rat := wsum (xsO t) (ysO t)
def firstE (t : List Spo) : Rat := if t.length % 2 = 1 then tilt t / room t else -(tilt t / room t)
theorem w_ne {t : List Spo} (h : WPos t) {k : Nat} (hk : k < t.length) : at0 (wsO t) k ≠ 0 := by
  rw [wsO_at hk]
  have := h _ (List.getElem_mem hk)
  intro z; rw [z] at this; exact absurd this Rat.lt_irrefl
theorem rmN_sz {N : Nat} {t : List Spo} (h : SzT N t) (hw : WPos t) (hd : Dis (xsO t)) (hn : t.length ≤ 8) {k : Nat} (hk : k < t.length) : Sz (17 * N + 27) (rmN t k) := by
  have h1 := (lev_sz h.xs hd (k := k) (by simpa using hk)).abs
  have h2 := sz_at0 h.ws k
  have hm := Nat.mul_le_mul hn (Nat.le_refl (2 * N + 3))
  rw [xsO_len] at h1
  exact (h1.div h2 (w_ne hw hk)).mono (by omega)
theorem room_sz {N : Nat} {t : List Spo} (h : SzT N t) (hw : WPos t) (hd : Dis (xsO t)) (hn : t.length ≤ 8) {j : Nat} (hj : j ≤ t.length) : Sz (136 * N + 225) (sumN (rmN t) j) :=
  (sumN_sz fun k hk => rmN_sz h hw hd hn (show k < t.length by omega)).mono (sum8 (by omega) (by omega))
theorem wsNt_sz {N : Nat} {t : List Spo} (h : SzT N t) (hd : Dis (xsO t)) (hn : t.length ≤ 8) {j : Nat} (hj : j ≤ t.length) : Sz (136 * N + 225) (wsN (xsO t) (ysO t) j) := by
  rw [wsN_sum]
  refine (sumN_sz (b := 17 * N + 27) fun k hk => ?_).mono (sum8 (by omega) (by omega))
  have h1 := lev_sz h.xs hd (k := k) (by simp; omega)
  have hm := Nat.mul_le_mul hn (Nat.le_refl (2 * N + 3))
  rw [xsO_len] at h1
  exact (h1.mul (sz_at0 h.ys k)).mono (by omega)
theorem rmN_pos {t : List Spo} (hw : WPos t) (hd : Dis (xsO t)) {k : Nat} (hk : k < t.length) : 0 < rmN t k := by
  have h0 := apN_ne hd (k := k) (by simpa using hk) (xsO t).length (Nat.le_refl _)
  have h1 : lev (xsO t) k ≠ 0 := fun z => by
    unfold lev at z
    have e : 1 / apN (xsO t) k (xsO t).length * apN (xsO t) k (xsO t).length = 1 := by grind
    rw [z] at e; grind
  have h2 : 0 < rabs (lev (xsO t) k) := by
    unfold rabs
    rcases rat_sides h1 with q | q
    · rw [if_pos q]; grind
    · rw [if_neg (by grind)]; exact q
  have h3 : 0 < at0 (wsO t) k := by rw [wsO_at hk]; exact hw _ (List.getElem_mem hk)
  unfold rmN
  rw [Rat.div_def]
  exact Rat.mul_pos h2 (Rat.inv_pos.mpr h3)
theorem room_pos {t : List Spo} (hw : WPos t) (hd : Dis (xsO t)) (h0 : 0 < t.length) : 0 < room t := sumN_pos (fun k hk => rmN_pos hw hd hk) h0
theorem fn_room_of_eq {L : Lh} {N n : Nat} {t : List Spo} (ht : L[n]? = some (.lst (t.map spD))) (h : SzT N t) (hw : WPos t) (hd : Dis (xsO t)) (hn : t.length ≤ 8) (hs : 200 * N + 400 ≤ LIM) : fn_room_of [.loc n] L = .val (fr (room t)) L := by
  apply wpR.eq
  unfold fn_room_of d_room_of
  refine wp_run rfl ?_
  simp [k0, ltR_loc ht]
  refine wp_parts ht (by omega) (xsO_len t) (fun k hk L1 => by simp [xsO_at hk]) ?_
  have lim : ((xsO t).length + 1) * (2 * N + 3) + 2 ≤ LIM := by
    have := Nat.mul_le_mul (show (xsO t).length + 1 ≤ 9 by simp; omega) (Nat.le_refl (2 * N + 3)); omega
  have lv := fn_levers_eq (L := L ++ [.lst ((xsO t).map fr)]) (.lst get_last) h.xs hd (by simp; omega) lim
  simp [lv, -List.map_map]
  have hz := zpR_loc (L := L ++ [.lst ((xsO t).map fr), .lst ((levs (xsO t)).map fr)]) (n := L.length + 1) (m := n) (xs := (levs (xsO t)).map fr) (ys := t.map spD) (by simp) (get_app ht)
  rw [hz]
  simp [-List.map_map]
  generalize hL1 : L ++ [Cell.lst ((xsO t).map fr), Cell.lst ((levs (xsO t)).map fr)] = L1 at *
  have c1 : L1[L.length + 1]? = some (.lst ((levs (xsO t)).map fr)) := by rw [← hL1]; simp
  have c2 : L1[n]? = some (.lst (t.map spD)) := by rw [← hL1]; exact get_app ht
  refine wp_for (fun k Γ L' => (∃ v2 v3, Γ = [some (.loc n), some (fr (sumN (rmN t) k)), v2, v3, none, none, none]) ∧ L' = L1) ⟨⟨_, _, rfl⟩, rfl⟩ (fun _ _ _ _ q => by rw [q.2]; exact ⟨c1, c2⟩) (fun k hk Γ L' J hJ hI => ?_) (fun Γ L' hI => ?_)
  · obtain ⟨⟨v2, v3, rfl⟩, rfl⟩ := hI
    have hk' : k < t.length := by simp at hk; omega
    have el : (levs (xsO t))[k]'(by simp; omega) = lev (xsO t) k := by simp [levs]
    simp only [zipD_get, List.getElem_map, el]
    have s1 := (lev_sz h.xs hd (k := k) (by simpa using hk')).abs
    have hm := Nat.mul_le_mul hn (Nat.le_refl (2 * N + 3))
    rw [xsO_len] at s1
    have z1 := fn_over_eq L' (p := rabs (lev (xsO t) k)) (q := t[k].w) (Fit.of s1 (by omega)) (Fit.of (h _ (List.getElem_mem hk')).2.2 (by omega)) (by rw [← wsO_at hk']; exact w_ne hw hk')
    have z2 := fn_plus_eq L' (Fit.of (room_sz h hw hd hn (show k ≤ t.length by omega)) (by omega)) (Fit.of (rmN_sz h hw hd hn hk') (by omega))
    have e3 : rabs (lev (xsO t) k) / t[k].w = rmN t k := by unfold rmN; rw [wsO_at hk']
    rw [e3] at z1
    simp [fn_unsigned_eq, z1, z2]
    exact hJ _ _ ⟨⟨_, _, rfl⟩, rfl⟩
  · obtain ⟨⟨v2, v3, rfl⟩, rfl⟩ := hI
    have e : (zipD ((levs (xsO t)).map fr) (t.map spD)).length = t.length := by simp
    simp only [e]
    simp [← hL1, room]
theorem firstE_sz {N : Nat} {t : List Spo} (h : SzT N t) (hw : WPos t) (hd : Dis (xsO t)) (hn : t.length ≤ 8) (h0 : 0 < t.length) : Sz (272 * N + 450) (firstE t) := by
  have s1 := wsNt_sz h hd hn (j := t.length) (Nat.le_refl _)
  have s2 := room_sz h hw hd hn (j := t.length) (Nat.le_refl _)
  have hr := room_pos hw hd h0
  have hr0 : room t ≠ 0 := fun z => by rw [z] at hr; exact absurd hr Rat.lt_irrefl
  have s3 : Sz (272 * N + 450) (tilt t / room t) := by
    have e : tilt t = wsN (xsO t) (ysO t) t.length := by unfold tilt wsum; simp
    rw [e]
    exact (s1.div s2 hr0).mono (by omega)
  unfold firstE
  split
  · exact s3
  · exact s3.neg
theorem fn_first_error_eq {L : Lh} {N n : Nat} {t : List Spo} (ht : L[n]? = some (.lst (t.map spD))) (h : SzT N t) (hw : WPos t) (hd : Dis (xsO t)) (hn : t.length ≤ 8) (h0 : 0 < t.length) (hs : 300 * N + 1000 ≤ LIM) : fn_first_error [.loc n] L = .val (fr (firstE t)) L := by
  apply wpR.eq
  unfold fn_first_error d_first_error
  refine wp_run rfl ?_
  simp [ltR_loc ht]
  refine wp_parts ht (by omega) (xsO_len t) (fun k hk L1 => by simp [xsO_at hk]) ?_
  have ht2 := get_app (X := [.lst ((xsO t).map fr)]) ht
  have hx2 := get_last (L := L) (c := .lst ((xsO t).map fr))
  generalize hL1 : L ++ [Cell.lst ((xsO t).map fr)] = L1 at *
  simp [ltR_loc ht2]
  refine wp_parts ht2 (by omega) (ysO_len t) (fun k hk L1 => by simp [ysO_at hk]) ?_
  have ht3 := get_app (X := [.lst ((ysO t).map fr)]) ht2
  have hx3 := get_app (X := [.lst ((ysO t).map fr)]) hx2
  have hy3 := get_last (L := L1) (c := .lst ((ysO t).map fr))
  generalize hL2 : L1 ++ [Cell.lst ((ysO t).map fr)] = L2 at *
  have s1 := wsNt_sz h hd hn (j := t.length) (Nat.le_refl _)
  have s2 := room_sz h hw hd hn (j := t.length) (Nat.le_refl _)
  have hr := room_pos hw hd h0
  have hr0 : room t ≠ 0 := fun z => by rw [z] at hr; exact absurd hr Rat.lt_irrefl
  have e1 : wsum (xsO t) (ysO t) = tilt t := rfl
  have et : tilt t = wsN (xsO t) (ysO t) t.length := by unfold tilt wsum; simp
  have lim : ((xsO t).length + 1) * ((xsO t).length * (2 * N + 3) + N + 4) + 2 * N + 10 ≤ LIM := by
    have h1 := Nat.mul_le_mul (show (xsO t).length ≤ 8 by simpa using hn) (Nat.le_refl (2 * N + 3))
    have h2 := Nat.mul_le_mul (show (xsO t).length + 1 ≤ 9 by simp; omega) (show (xsO t).length * (2 * N + 3) + N + 4 ≤ 17 * N + 28 by omega)
    omega
  have zw := fn_weighed_eq hx3 hy3 h.xs h.ys hd (by simp; omega) (by simp) lim
  have zr := fn_room_of_eq ht3 h hw hd hn (by omega)
  have zo := fn_over_eq L2 (p := tilt t) (q := room t) (Fit.of (by rw [et]; exact s1) (by omega)) (Fit.of s2 (by omega)) hr0
  have ix := items_loc ht3
  simp [zw, zr, zo, ix, e1, -List.map_map]
  have hf : (t.length : Int).fmod 2 = ((t.length % 2 : Nat) : Int) := by rw [Int.fmod_eq_emod_of_nonneg _ (by omega)]; omega
  rw [hf]
  refine wp_ifE (fun q => ?_) (fun q => ?_)
  · have : t.length % 2 = 1 := by omega
    simp [firstE, this, ← hL2, ← hL1]
  · have : ¬ t.length % 2 = 1 := by omega
    simp [firstE, this, fn_opposite_eq, ← hL2, ← hL1]
theorem fn_bound_eq {L : Lh} {N n : Nat} {t : List Spo} (ht : L[n]? = some (.lst (t.map spD))) (h : SzT N t) (hw : WPos t) (hd : Dis (xsO t)) (hn : t.length ≤ 8) (h0 : 0 < t.length) (hs : 300 * N + 1000 ≤ LIM) : fn_bound [.loc n] L = .val (fr (rabs (firstE t))) L := by
  have z := fn_first_error_eq ht h hw hd hn h0 hs
  apply wpR.eq
  unfold fn_bound d_bound
  refine wp_run rfl ?_
  simp [z, fn_unsigned_eq]
theorem fn_without_root_eq (L : Lh) (x : Rat) : fn_without_root [fr x] L = .val (pol [-x, 1]) L := by
  apply wpR.eq
  unfold fn_without_root d_without_root
  refine wp_run rfl ?_
  have e : D.tup [fr (-x), fr 1] = pol [-x, 1] := rfl
  simp [fn_turned_eq, k1, e]
@[simp ↓] theorem gT_pr {gs : Tgs3} {p : Rat × Rat} {Γ : G3} {L : Lh} {P : Po} : wpS (gT 2 gs (prD p) Γ L) P = wpS (gs [fr p.1, fr p.2] Γ L) P := rfl
theorem thr_steep {ps : List (Rat × Rat)} {i : Nat} : thr ps (i + 1) = (psum (thr ps i).1 (pscale (thr ps i).2 ((at0 (pys ps) i - ev (thr ps i).1 (at0 (pxs ps) i)) / ev (thr ps i).2 (at0 (pxs ps) i))), pmul (thr ps i).2 [-(at0 (pxs ps) i), 1]) := rfl
theorem thr_roots_sz {N : Nat} {ps : List (Rat × Rat)} (h : SzP N (pxs ps)) {i : Nat} (hi : i ≤ ps.length) (hl : i ≤ 7) : SzP (128 * N + 512) (thr ps i).2 := by
  rw [thr_roots]
  exact rootsP_sz7 (revN_sz h (by simpa using hi)) (by rw [revN_len]; exact hl)
/-- one turn of through -/
theorem through_turn {L : Lh} {N M i : Nat} {ps : List (Rat × Rat)} (h : SzP N (pxs ps)) (hy : SzP M (pys ps)) (hd : DisN (pxs ps) i) (hi : i < ps.length) (hl : ps.length ≤ 7) (hs : 20000 * N + 200 * M + 200000 ≤ LIM) :
    fn_worth [pol (thr ps i).2, fr (at0 (pxs ps) i)] L = .val (fr (ev (thr ps i).2 (at0 (pxs ps) i))) L ∧
    fn_worth [pol (thr ps i).1, fr (at0 (pxs ps) i)] L = .val (fr (ev (thr ps i).1 (at0 (pxs ps) i))) L ∧
    fn_less [fr (at0 (pys ps) i), fr (ev (thr ps i).1 (at0 (pxs ps) i))] L = .val (fr (at0 (pys ps) i - ev (thr ps i).1 (at0 (pxs ps) i))) L ∧
    (ev (thr ps i).2 (at0 (pxs ps) i) ≠ 0 →
      fn_over [fr (at0 (pys ps) i - ev (thr ps i).1 (at0 (pxs ps) i)), fr (ev (thr ps i).2 (at0 (pxs ps) i))] L = .val (fr ((at0 (pys ps) i - ev (thr ps i).1 (at0 (pxs ps) i)) / ev (thr ps i).2 (at0 (pxs ps) i))) L ∧
      fn_times_all [pol (thr ps i).2, fr ((at0 (pys ps) i - ev (thr ps i).1 (at0 (pxs ps) i)) / ev (thr ps i).2 (at0 (pxs ps) i))] L = .val (pol (pscale (thr ps i).2 ((at0 (pys ps) i - ev (thr ps i).1 (at0 (pxs ps) i)) / ev (thr ps i).2 (at0 (pxs ps) i)))) L ∧
      fn_sum_of [pol (thr ps i).1, pol (pscale (thr ps i).2 ((at0 (pys ps) i - ev (thr ps i).1 (at0 (pxs ps) i)) / ev (thr ps i).2 (at0 (pxs ps) i)))] L = .val (pol (thr ps (i + 1)).1) L ∧
      fn_product [pol (thr ps i).2, pol [-(at0 (pxs ps) i), 1]] L = .val (pol (thr ps (i + 1)).2) L) := by
  have sx : Sz N (at0 (pxs ps) i) := by rw [at0_lt (by simpa using hi)]; exact h _ (List.getElem_mem _)
  have sy : Sz M (at0 (pys ps) i) := by rw [at0_lt (by simpa using hi)]; exact hy _ (List.getElem_mem _)
  have s1 := thr_roots_sz h (i := i) (by omega) (by omega)
  have s2 := thr_sz h hy hd (by omega) (by omega)
  have l1 : (thr ps i).2.length ≤ 8 := by rw [thr_roots, rootsP_len, revN_len]; omega
  have l2 : (thr ps i).1.length ≤ 7 := by have := thr_len ps i; omega
  have e1 := ev_sz s1 sx l1
  have e2 := ev_sz s2 sx l2
  have m1 := Nat.mul_le_mul (show (thr ps i).2.length + 1 ≤ 9 by omega) (Nat.le_refl (128 * N + 512 + N + 2))
  have m2 := Nat.mul_le_mul (show (thr ps i).1.length + 1 ≤ 8 by omega) (Nat.le_refl (1152 * N + 8 * M + 4400 + N + 2))
  have e3 := sy.sub e2
  have f1 : FitP (thr ps i).2 := FitP.of s1 (by omega)
  have f2 : FitP (thr ps i).1 := FitP.of s2 (by omega)
  refine ⟨fn_worth_eq L s1 sx (by omega), fn_worth_eq L s2 sx (by omega), fn_less_eq L (Fit.of sy (by omega)) (Fit.of e2 (by omega)), fun h0 => ?_⟩
  have e4 := e3.div e1 h0
  have s3 := s1.pscale e4
  have f4 := Fit.of e4 (by omega)
  refine ⟨fn_over_eq L (Fit.of e3 (by omega)) (Fit.of e1 (by omega)) h0, fn_times_all_eq L f1 f4 (by omega), ?_, ?_⟩
  · rw [thr_steep]
    exact fn_sum_of_eq L f2 (FitP.of s3 (by omega)) (by omega) (Nat.le_trans (pscale_len _ _) (by omega))
  · rw [thr_steep]
    have s5 : SzP (N + 1) [-(at0 (pxs ps) i), 1] := szP_cons (sx.neg.mono (by omega)) (szP_cons (sz1.mono (by omega)) szP_nil)
    have m3 := Nat.mul_le_mul (show (thr ps i).2.length + 1 ≤ 9 by omega) (Nat.le_refl (128 * N + 512 + (N + 1) + 3))
    exact fn_product_eq L s1 s5 (by omega) (by omega) (by simp)
theorem fn_through_eq {L : Lh} {N M n : Nat} {ps : List (Rat × Rat)} (hp : L[n]? = some (.lst (ps.map prD))) (h : SzP N (pxs ps)) (hy : SzP M (pys ps)) (hd : DisN (pxs ps) ps.length) (hl : ps.length ≤ 7) (hs : 20000 * N + 200 * M + 200000 ≤ LIM) : fn_through [.loc n] L = .val (pol (through ps)) L := by
  apply wpR.eq
  unfold fn_through d_through
  refine wp_run rfl ?_
  have e0 : D.tup [] = pol [] := rfl
  have e1 : D.tup [fr 1] = pol [1] := rfl
  simp [k1, e0, e1, ltR_loc hp]
  refine wp_for (fun i Γ L' => (∃ v3 v4 v5 v6, Γ = [some (.loc n), some (pol (thr ps i).1), some (pol (thr ps i).2), v3, v4, v5, v6]) ∧ L' = L) ⟨⟨_, _, _, _, rfl⟩, rfl⟩ (fun _ _ _ _ q => by rw [q.2, hp]) (fun i hi Γ L' J hJ hI => ?_) (fun Γ L' hI => ?_)
  · obtain ⟨⟨v3, v4, v5, v6, rfl⟩, rfl⟩ := hI
    have hi' : i < ps.length := by simpa using hi
    obtain ⟨z1, z2, z3, z4⟩ := through_turn (L := L') h hy (hd.mono (show i ≤ ps.length by omega)) hi' hl hs
    have h0 := steep_ne (hd.mono (show i + 1 ≤ ps.length by omega))
    obtain ⟨z5, z6, z7, z8⟩ := z4 h0
    simp only [List.getElem_map]
    simp only [gT_pr, ← pxs_at hi', ← pys_at hi']
    simp [z1, z2, z3, z5, z6, z7, z8, k0, h0, fn_without_root_eq]
    exact hJ _ _ ⟨⟨_, _, _, _, rfl⟩, rfl⟩
  · obtain ⟨⟨v3, v4, v5, v6, rfl⟩, rfl⟩ := hI
    simp [through]
/-! ## the level of a reference -/
/-- where the level's polynomial lies at the spots but the first -/
def lvPairs (t : List Spo) : List (Rat × Rat) := (List.range (t.length - 1)).map fun k => (at0 (xsO t) (k + 1), at0 (ysO t) (k + 1) - sg (k + 1) * firstE t / at0 (wsO t) (k + 1))
def lvPoly (t : List Spo) : List Rat := through (lvPairs t)
@[simp] theorem lvPairs_len (t : List Spo) : (lvPairs t).length = t.length - 1 := by simp [lvPairs]
theorem lvPairs_at {t : List Spo} {k : Nat} (h : k < t.length - 1) : (lvPairs t)[k]'(by simpa using h) = (at0 (xsO t) (k + 1), at0 (ysO t) (k + 1) - sg (k + 1) * firstE t / at0 (wsO t) (k + 1)) := by simp [lvPairs]
theorem lv_xs {t : List Spo} {k : Nat} (h : k < t.length - 1) : at0 (pxs (lvPairs t)) k = at0 (xsO t) (k + 1) := by rw [pxs_at (by simpa using h), lvPairs_at h]
theorem lv_ys {t : List Spo} {k : Nat} (h : k < t.length - 1) : at0 (pys (lvPairs t)) k = at0 (ysO t) (k + 1) - sg (k + 1) * firstE t / at0 (wsO t) (k + 1) := by rw [pys_at (by simpa using h), lvPairs_at h]
theorem lv_dis {t : List Spo} (hd : Dis (xsO t)) : DisN (pxs (lvPairs t)) (lvPairs t).length := fun a b ha hb hab => by
  simp at ha hb
  rw [lv_xs ha, lv_xs hb]
  exact hd _ _ (by simp; omega) (by simp; omega) (by omega)
theorem sgh_sz {N k : Nat} {h : Rat} (s : Sz N h) : Sz N (sg k * h) := by
  unfold sg
  split
  · rw [Rat.one_mul]; exact s
  · have : -1 * h = -h := by grind
    rw [this]; exact s.neg
theorem lv_szx {N : Nat} {t : List Spo} (h : SzT N t) : SzP N (pxs (lvPairs t)) := fun p hp => by
  obtain ⟨k, hk, rfl⟩ := List.mem_iff_getElem.mp hp
  have hk' : k < t.length - 1 := by simpa using hk
  rw [← at0_lt hk, lv_xs hk', at0_lt (by simp; omega)]
  exact h.xs _ (List.getElem_mem _)
theorem lv_szy {N : Nat} {t : List Spo} (h : SzT N t) (hw : WPos t) (hd : Dis (xsO t)) (hn : t.length ≤ 8) : SzP (274 * N + 455) (pys (lvPairs t)) := fun p hp => by
  obtain ⟨k, hk, rfl⟩ := List.mem_iff_getElem.mp hp
  have hk' : k < t.length - 1 := by simpa using hk
  rw [← at0_lt hk, lv_ys hk']
  have s1 := sgh_sz (k := k + 1) (firstE_sz h hw hd hn (by omega))
  have s2 := h.ws.get (k := k + 1) (by simp; omega)
  have s3 := h.ys.get (k := k + 1) (by simp; omega)
  rw [← at0_lt (by simp; omega)] at s2 s3
  exact (s3.sub (s1.div s2 (w_ne hw (by omega)))).mono (by omega)
theorem lvPoly_len (t : List Spo) : (lvPoly t).length ≤ t.length - 1 := by
  have := thr_len (lvPairs t) (lvPairs t).length
  simpa [lvPoly, through] using this
theorem lvPoly_sz {N : Nat} {t : List Spo} (h : SzT N t) (hw : WPos t) (hd : Dis (xsO t)) (hn : t.length ≤ 8) : SzP (3400 * N + 8100) (lvPoly t) := by
  have := thr_sz (lv_szx h) (lv_szy h hw hd hn) (lv_dis hd) (Nat.le_refl _) (by simp; omega)
  exact this.mono (by omega)
/-- a level's errors: of one size, by turns -/
theorem lv_right {t : List Spo} (hr : Rise (xsO t)) (hw : WPos t) (h2 : 2 ≤ t.length) : ∀ k, k < t.length → at0 (ysO t) k - ev (lvPoly t) (at0 (xsO t) k) = sg k * firstE t / at0 (wsO t) k := by
  have hd := hr.dis
  have rest : ∀ k, k + 1 < t.length → at0 (ysO t) (k + 1) - ev (lvPoly t) (at0 (xsO t) (k + 1)) = sg (k + 1) * firstE t / at0 (wsO t) (k + 1) := fun k hk => by
    have := thr_pass (lv_dis hd) k (by simp; omega)
    rw [lv_xs (by omega), lv_ys (by omega)] at this
    have e : (thr (lvPairs t) (lvPairs t).length).1 = lvPoly t := rfl
    rw [e] at this
    grind
  intro k hk
  cases k with
  | succ k => exact rest k hk
  | zero =>
    -- all together, weighed
    have w1 : wsum (xsO t) ((List.range t.length).map fun k => ev (lvPoly t) (at0 (xsO t) k)) = 0 := by
      have hl := lvPoly_len t
      rw [wsum_ev (ps := lvPoly t) hd (by simp; omega) (by simp; omega) (fun k hk => at0_map (by simpa using hk))]
      exact at0_ge (by simp; omega)
    rw [wsum_sum, xsO_len] at w1
    have e1 : sumN (fun j => lev (xsO t) j * at0 ((List.range t.length).map fun k => ev (lvPoly t) (at0 (xsO t) k)) j) t.length = sumN (fun j => lev (xsO t) j * ev (lvPoly t) (at0 (xsO t) j)) t.length := sumN_congr fun j hj => by rw [at0_map hj]
    rw [e1] at w1
    have e2 : sumN (fun j => lev (xsO t) j * (sg j * firstE t / at0 (wsO t) j)) t.length = tilt t := by
      have hr0 := room_pos hw hd (show 0 < t.length by omega)
      have hr1 : room t ≠ 0 := fun z => by rw [z] at hr0; exact absurd hr0 Rat.lt_irrefl
      have e3 : sumN (fun j => lev (xsO t) j * (sg j * firstE t / at0 (wsO t) j)) t.length = sumN (fun j => (firstE t * sg (t.length - 1)) * rmN t j) t.length := sumN_congr fun j hj => by
        unfold rmN
        rw [lev_abs hr (by simpa using hj), xsO_len]
        have a1 := sg_add j (t.length - 1 - j)
        rw [show j + (t.length - 1 - j) = t.length - 1 by omega] at a1
        have a2 := sg_sq (t.length - 1 - j)
        have a3 := w_ne hw hj
        rw [a1]
        generalize sg (t.length - 1 - j) = s at *
        grind
      rw [e3, sumN_mul]
      have e4 : firstE t * sg (t.length - 1) = tilt t / room t := by
        unfold firstE sg
        by_cases hp : t.length % 2 = 1
        · rw [if_pos hp, if_pos (by omega)]; grind
        · rw [if_neg hp, if_neg (by omega)]; grind
      rw [e4]
      show tilt t / room t * room t = tilt t
      grind
    have e5 : tilt t = sumN (fun j => lev (xsO t) j * at0 (ysO t) j) t.length := by unfold tilt; rw [wsum_sum, xsO_len]
    -- the terms but the first are alike
    have e6 : sumN (fun j => lev (xsO t) j * (at0 (ysO t) j - ev (lvPoly t) (at0 (xsO t) j) - sg j * firstE t / at0 (wsO t) j)) t.length = 0 := by
      have : sumN (fun j => lev (xsO t) j * (at0 (ysO t) j - ev (lvPoly t) (at0 (xsO t) j) - sg j * firstE t / at0 (wsO t) j)) t.length = sumN (fun j => (lev (xsO t) j * at0 (ysO t) j - lev (xsO t) j * ev (lvPoly t) (at0 (xsO t) j)) - lev (xsO t) j * (sg j * firstE t / at0 (wsO t) j)) t.length := sumN_congr fun j _ => by grind
      rw [this, sumN_sub, sumN_sub, ← e5, w1, e2]; grind
    rw [sumN_one (j := 0) (by omega) (fun j hj hj0 => by
      obtain ⟨i, rfl⟩ : ∃ i, j = i + 1 := ⟨j - 1, by omega⟩
      rw [rest i hj]; grind)] at e6
    have h0 := apN_ne hd (k := 0) (by simp; omega) (xsO t).length (Nat.le_refl _)
    have h1 : lev (xsO t) 0 ≠ 0 := fun z => by
      unfold lev at z
      have e : 1 / apN (xsO t) 0 (xsO t).length * apN (xsO t) 0 (xsO t).length = 1 := by grind
      rw [z] at e; grind
    rcases Rat.mul_eq_zero.mp e6 with z | z
    · exact absurd z h1
    · grind
/-- just one polynomial and one number are so -/
theorem lv_unique {t : List Spo} {q : List Rat} {g : Rat} (hr : Rise (xsO t)) (hw : WPos t) (h2 : 2 ≤ t.length) (hq : q.length ≤ t.length - 1) (h : ∀ k, k < t.length → at0 (ysO t) k - ev q (at0 (xsO t) k) = sg k * g / at0 (wsO t) k) : g = firstE t ∧ trim q = lvPoly t := by
  have hd := hr.dis
  have hr0 := room_pos hw hd (show 0 < t.length by omega)
  have hr1 : room t ≠ 0 := fun z => by rw [z] at hr0; exact absurd hr0 Rat.lt_irrefl
  -- any such pair has this number
  have key : ∀ (q : List Rat) (g : Rat), q.length ≤ t.length - 1 → (∀ k, k < t.length → at0 (ysO t) k - ev q (at0 (xsO t) k) = sg k * g / at0 (wsO t) k) → tilt t = g * sg (t.length - 1) * room t := fun q g hq h => by
    have w1 : wsum (xsO t) ((List.range t.length).map fun k => ev q (at0 (xsO t) k)) = 0 := by
      rw [wsum_ev (ps := q) hd (by simp; omega) (by simp; omega) (fun k hk => at0_map (by simpa using hk))]
      exact at0_ge (by simp; omega)
    rw [wsum_sum, xsO_len] at w1
    have e1 : sumN (fun j => lev (xsO t) j * at0 ((List.range t.length).map fun k => ev q (at0 (xsO t) k)) j) t.length = sumN (fun j => lev (xsO t) j * ev q (at0 (xsO t) j)) t.length := sumN_congr fun j hj => by rw [at0_map hj]
    rw [e1] at w1
    have e3 : tilt t - 0 = sumN (fun j => (g * sg (t.length - 1)) * rmN t j) t.length := by
      rw [← w1]
      unfold tilt
      rw [wsum_sum, xsO_len, ← sumN_sub]
      refine sumN_congr fun j hj => ?_
      unfold rmN
      rw [lev_abs hr (by simpa using hj), xsO_len]
      have a1 := sg_add j (t.length - 1 - j)
      rw [show j + (t.length - 1 - j) = t.length - 1 by omega] at a1
      have a2 := sg_sq (t.length - 1 - j)
      have a3 := w_ne hw hj
      have a4 := h j hj
      rw [a1]
      generalize sg (t.length - 1 - j) = s at *
      have : lev (xsO t) j * at0 (ysO t) j - lev (xsO t) j * ev q (at0 (xsO t) j) = lev (xsO t) j * (sg j * g / at0 (wsO t) j) := by rw [← a4]; grind
      rw [this]
      grind
    rw [sumN_mul] at e3
    have : sumN (rmN t) t.length = room t := rfl
    rw [this] at e3
    grind
  have k1 := key q g hq h
  have k2 := key (lvPoly t) (firstE t) (lvPoly_len t) (lv_right hr hw h2)
  have hg : g = firstE t := by
    rw [k1] at k2
    have a2 := sg_sq (t.length - 1)
    generalize sg (t.length - 1) = s at *
    have : g * s = firstE t * s := by
      have e : (g * s) * room t / room t = (firstE t * s) * room t / room t := by rw [k2]
      have e1 : (g * s) * room t / room t = g * s := by grind
      have e2 : (firstE t * s) * room t / room t = firstE t * s := by grind
      rw [← e1, e, e2]
    have e3 : g * s * s = firstE t * s * s := by rw [this]
    grind
  refine ⟨hg, ?_⟩
  have e : trim q = trim (lvPoly t) := by
    refine ev_ext_at hd.nodup (by simp; omega) (by have := lvPoly_len t; simp; omega) fun x hx => ?_
    obtain ⟨k, hk, rfl⟩ := List.mem_iff_getElem.mp hx
    have hk' : k < t.length := by simpa using hk
    rw [← at0_lt hk]
    have a1 := h k hk'
    have a2 := lv_right hr hw h2 k hk'
    rw [hg] at a1
    grind
  rw [e]
  exact trim_thr _ _
/-- an error at a spot, weighed -/
def errN (t : List Spo) (q : List Rat) (k : Nat) : Rat := at0 (wsO t) k * (at0 (ysO t) k - ev q (at0 (xsO t) k))
/-- the greatest without sign -/
def mxN (f : Nat → Rat) : Nat → Rat
  | 0 => 0
  | k + 1 => if mxN f k < rabs (f k) then rabs (f k) else mxN f k
theorem mxN_mono (f : Nat → Rat) (n : Nat) : mxN f n ≤ mxN f (n + 1) := by
  rw [mxN]; split <;> rename_i h
  · exact Rat.le_of_lt h
  · exact Rat.le_refl
theorem mxN_le (f : Nat → Rat) : ∀ n k, k < n → rabs (f k) ≤ mxN f n
  | n + 1, k, hk => by
    by_cases e : k = n
    · subst e
      rw [mxN]; split <;> rename_i h
      · exact Rat.le_refl
      · exact Rat.not_lt.mp h
    · have h1 := mxN_le f n k (by omega)
      have h2 := mxN_mono f n
      grind
theorem mxN_lub {f : Nat → Rat} {c : Rat} (h0 : 0 ≤ c) : ∀ {n}, (∀ k, k < n → rabs (f k) ≤ c) → mxN f n ≤ c
  | 0, _ => h0
  | n + 1, h => by
    rw [mxN]; split
    · exact h n (by omega)
    · exact mxN_lub h0 fun k hk => h k (by omega)
theorem mxN_nonneg (f : Nat → Rat) : ∀ n, 0 ≤ mxN f n
  | 0 => Rat.le_refl
  | n + 1 => by have h1 := mxN_nonneg f n; have h2 := mxN_mono f n; grind
theorem mxN_sz {b : Nat} {f : Nat → Rat} : ∀ {n : Nat}, (∀ k, k < n → Sz b (f k)) → Sz (b + 1) (mxN f n)
  | 0, _ => sz0.mono (by omega)
  | n + 1, h => by
    rw [mxN]; split
    · exact ((h n (by omega)).abs).mono (by omega)
    · exact mxN_sz fun k hk => h k (by omega)
theorem mxN_congr {f g : Nat → Rat} : ∀ {n : Nat}, (∀ k, k < n → rabs (f k) = rabs (g k)) → mxN f n = mxN g n
  | 0, _ => rfl
  | n + 1, h => by rw [mxN, mxN, mxN_congr fun k hk => h k (by omega), h n (by omega)]
/-- what all errors come to, weighed by levers -/
theorem tilt_err {t : List Spo} {q : List Rat} (hr : Rise (xsO t)) (hw : WPos t) (h1 : 1 ≤ t.length) (hq : q.length ≤ t.length - 1) : tilt t = sumN (fun j => rmN t j * (sg (t.length - 1 - j) * errN t q j)) t.length := by
  have hd := hr.dis
  have w1 : wsum (xsO t) ((List.range t.length).map fun k => ev q (at0 (xsO t) k)) = 0 := by
    rw [wsum_ev (ps := q) hd (by simp; omega) (by simp; omega) (fun k hk => at0_map (by simpa using hk))]
    exact at0_ge (by simp; omega)
  rw [wsum_sum, xsO_len] at w1
  have e1 : sumN (fun j => lev (xsO t) j * at0 ((List.range t.length).map fun k => ev q (at0 (xsO t) k)) j) t.length = sumN (fun j => lev (xsO t) j * ev q (at0 (xsO t) j)) t.length := sumN_congr fun j hj => by rw [at0_map hj]
  rw [e1] at w1
  have e3 : tilt t - 0 = sumN (fun j => rmN t j * (sg (t.length - 1 - j) * errN t q j)) t.length := by
    rw [← w1]
    unfold tilt
    rw [wsum_sum, xsO_len, ← sumN_sub]
    refine sumN_congr fun j hj => ?_
    unfold rmN errN
    rw [lev_abs hr (by simpa using hj), xsO_len]
    have a2 := sg_sq (t.length - 1 - j)
    have a3 := w_ne hw hj
    generalize sg (t.length - 1 - j) = s at *
    generalize lev (xsO t) j = l at *
    generalize at0 (wsO t) j = w at *
    generalize at0 (ysO t) j = y at *
    generalize ev q (at0 (xsO t) j) = z at *
    have : l * s / w * (s * (w * (y - z))) = l * (y - z) * (s * s) * (w * (1 / w)) := by grind
    rw [this, a2]
    have : w * (1 / w) = 1 := by grind
    rw [this]; grind
  rw [← e3]; grind
theorem rabs_sg (q : Rat) (s : Rat) (hs : s * s = 1) : s * q ≤ rabs q := by
  have : (s - 1) * (s + 1) = 0 := by grind
  unfold rabs
  rcases Rat.mul_eq_zero.mp this with z | z
  · have : s = 1 := by grind
    subst this; split <;> grind
  · have : s = -1 := by grind
    subst this; split <;> grind
theorem rabs_own (q : Rat) : ∃ s : Rat, s * s = 1 ∧ s * q = rabs q := by
  unfold rabs; split
  · exact ⟨-1, by grind, by grind⟩
  · exact ⟨1, by grind, by grind⟩
theorem rabs_neg (q : Rat) : rabs (-q) = rabs q := by unfold rabs; split <;> split <;> grind
theorem rabs_div {p r : Rat} (hr : 0 < r) : rabs (p / r) * r = rabs p := by
  have hne : r ≠ 0 := fun z => by subst z; exact absurd hr Rat.lt_irrefl
  have e : p / r * r = p := by grind
  unfold rabs
  by_cases h : p < 0
  · have : p / r < 0 := by
      apply Classical.byContradiction; intro h2
      have h3 : 0 ≤ p / r := Rat.not_lt.mp h2
      have := Rat.mul_nonneg h3 (Rat.le_of_lt hr)
      rw [e] at this; grind
    rw [if_pos this, if_pos h]; grind
  · have : ¬ p / r < 0 := fun h2 => by
      have h3 : 0 < -(p / r) := by grind
      have := Rat.mul_pos h3 hr
      grind
    rw [if_neg this, if_neg h]; exact e
theorem bound_tilt {t : List Spo} (hr : Rise (xsO t)) (hw : WPos t) (h1 : 1 ≤ t.length) : rabs (firstE t) * room t = rabs (tilt t) := by
  have hp := room_pos hw hr.dis (show 0 < t.length by omega)
  unfold firstE
  split
  · exact rabs_div hp
  · rw [rabs_neg]; exact rabs_div hp
/-- no polynomial is nearer than the bound -/
theorem bound_beneath {t : List Spo} {q : List Rat} (hr : Rise (xsO t)) (hw : WPos t) (h2 : 2 ≤ t.length) (hq : q.length ≤ t.length - 1) :
    rabs (firstE t) ≤ mxN (errN t q) t.length ∧ (mxN (errN t q) t.length ≤ rabs (firstE t) → trim q = lvPoly t) := by
  have hp := room_pos hw hr.dis (show 0 < t.length by omega)
  have hb := bound_tilt hr hw (by omega)
  obtain ⟨s, hs, hst⟩ := rabs_own (tilt t)
  generalize hm : mxN (errN t q) t.length = m
  have e1 : rabs (tilt t) = sumN (fun j => rmN t j * (s * sg (t.length - 1 - j) * errN t q j)) t.length := by
    rw [← hst, tilt_err hr hw (by omega) hq, ← sumN_mul]
    exact sumN_congr fun j hj => by grind
  have e2 : m * room t = sumN (fun j => rmN t j * m) t.length := by
    unfold room; rw [← sumN_mul]; exact sumN_congr fun j hj => by grind
  have u : ∀ j, j < t.length → s * sg (t.length - 1 - j) * errN t q j ≤ m := fun j hj => by
    have a1 := rabs_sg (errN t q j) (s * sg (t.length - 1 - j)) (by have := sg_sq (t.length - 1 - j); grind)
    have a2 := mxN_le (errN t q) t.length j hj
    rw [hm] at a2; grind
  have v : ∀ j, j < t.length → rmN t j * (s * sg (t.length - 1 - j) * errN t q j) ≤ rmN t j * m := fun j hj =>
    Rat.mul_le_mul_of_nonneg_left (u j hj) (Rat.le_of_lt (rmN_pos hw hr.dis hj))
  have key := sumN_le v
  rw [← e1, ← e2, ← hb] at key
  refine ⟨Rat.le_of_mul_le_mul_right key hp, fun hle => ?_⟩
  have all : ∀ j, j < t.length → s * sg (t.length - 1 - j) * errN t q j = m := fun j hj => by
    apply Classical.byContradiction
    intro hne
    have hlt : s * sg (t.length - 1 - j) * errN t q j < m := by have := u j hj; grind
    have k2 := sumN_lt v hj (Rat.mul_lt_mul_of_pos_left hlt (rmN_pos hw hr.dis hj))
    rw [← e1, ← e2, ← hb] at k2
    have k3 := Rat.mul_le_mul_of_nonneg_right hle (Rat.le_of_lt hp)
    grind
  refine (lv_unique (g := s * sg (t.length - 1) * m) hr hw h2 hq fun k hk => ?_).2
  have a := all k hk
  have b := sg_add k (t.length - 1 - k)
  rw [show k + (t.length - 1 - k) = t.length - 1 by omega] at b
  have c := sg_sq (t.length - 1 - k)
  have d := sg_sq k
  have a3 := w_ne hw hk
  unfold errN at a
  rw [b, ← a]
  generalize sg (t.length - 1 - k) = s1 at *
  generalize sg k = s2 at *
  generalize at0 (wsO t) k = w at *
  generalize at0 (ysO t) k - ev q (at0 (xsO t) k) = z at *
  have : s2 * (s * (s2 * s1) * (s * s1 * (w * z))) / w = (s2 * s2) * (s * s) * (s1 * s1) * (z * (w * (1 / w))) := by grind
  rw [this, c, d, hs]
  have : w * (1 / w) = 1 := by grind
  rw [this]; grind
/-- the level has just the bound -/
theorem level_size {t : List Spo} (hr : Rise (xsO t)) (hw : WPos t) (h2 : 2 ≤ t.length) : mxN (errN t (lvPoly t)) t.length = rabs (firstE t) := by
  have hll := lvPoly_len t
  have e : ∀ k, k < t.length → rabs (errN t (lvPoly t) k) = rabs (firstE t) := fun k hk => by
    unfold errN
    rw [lv_right hr hw h2 k hk]
    have a3 := w_ne hw hk
    have : at0 (wsO t) k * (sg k * firstE t / at0 (wsO t) k) = sg k * firstE t := by grind
    rw [this]
    unfold sg
    split
    · congr 1; grind
    · rw [show (-1 : Rat) * firstE t = -firstE t by grind, rabs_neg]
  have a := mxN_lub (f := errN t (lvPoly t)) (n := t.length) (rabs_nonneg (firstE t)) fun k hk => by rw [e k hk]; exact Rat.le_refl
  have b := (bound_beneath (q := lvPoly t) hr hw h2 hll).1
  grind
theorem bound_mean {t : List Spo} {q : List Rat} {s : Nat → Rat} {u : Rat} (hr : Rise (xsO t)) (hw : WPos t) (h1 : 1 ≤ t.length) (hq : q.length ≤ t.length - 1) (hu : u * u = 1) (hs : ∀ j, j < t.length → 0 ≤ s j) (he : ∀ j, j < t.length → errN t q j = u * sg j * s j) :
    rabs (firstE t) * room t = sumN (fun j => rmN t j * s j) t.length := by
  rw [bound_tilt hr hw h1, tilt_err hr hw h1 hq]
  have e : sumN (fun j => rmN t j * (sg (t.length - 1 - j) * errN t q j)) t.length = (u * sg (t.length - 1)) * sumN (fun j => rmN t j * s j) t.length := by
    rw [← sumN_mul]
    refine sumN_congr fun j hj => ?_
    rw [he j hj]
    have b := sg_add j (t.length - 1 - j)
    rw [show j + (t.length - 1 - j) = t.length - 1 by omega] at b
    rw [b]; grind
  have nn : 0 ≤ sumN (fun j => rmN t j * s j) t.length := sumN_nonneg fun j hj => Rat.mul_nonneg (Rat.le_of_lt (rmN_pos hw hr.dis hj)) (hs j hj)
  rw [e]
  generalize sumN (fun j => rmN t j * s j) t.length = S at *
  have hsg := sg_sq (t.length - 1)
  generalize sg (t.length - 1) = g at *
  have : (u * g - 1) * (u * g + 1) = 0 := by grind
  unfold rabs
  rcases Rat.mul_eq_zero.mp this with z | z
  · have : u * g = 1 := by grind
    rw [this]; split <;> grind
  · have : u * g = -1 := by grind
    rw [this]; split <;> grind
/-- the bound lies between the errors' sizes -/
theorem bound_between {t : List Spo} {q : List Rat} {s : Nat → Rat} {u lo hi : Rat} (hr : Rise (xsO t)) (hw : WPos t) (h1 : 1 ≤ t.length) (hq : q.length ≤ t.length - 1) (hu : u * u = 1) (hs : ∀ j, j < t.length → 0 ≤ s j) (he : ∀ j, j < t.length → errN t q j = u * sg j * s j)
    (hb : ∀ j, j < t.length → lo ≤ s j ∧ s j ≤ hi) (h2 : ∃ j, j < t.length ∧ s j = lo) (h3 : ∃ j, j < t.length ∧ s j = hi) : (lo = hi → rabs (firstE t) = lo) ∧ (lo ≠ hi → lo < rabs (firstE t) ∧ rabs (firstE t) < hi) := by
  have hp := room_pos hw hr.dis (show 0 < t.length by omega)
  have m := bound_mean hr hw h1 hq hu hs he
  have c : ∀ a : Rat, a * room t = sumN (fun j => rmN t j * a) t.length := fun a => by
    unfold room; rw [← sumN_mul]; exact sumN_congr fun j hj => by grind
  have l1 : ∀ j, j < t.length → rmN t j * lo ≤ rmN t j * s j := fun j hj => Rat.mul_le_mul_of_nonneg_left (hb j hj).1 (Rat.le_of_lt (rmN_pos hw hr.dis hj))
  have l2 : ∀ j, j < t.length → rmN t j * s j ≤ rmN t j * hi := fun j hj => Rat.mul_le_mul_of_nonneg_left (hb j hj).2 (Rat.le_of_lt (rmN_pos hw hr.dis hj))
  refine ⟨fun e => ?_, fun ne => ?_⟩
  · have a1 := sumN_le l1
    have a2 := sumN_le l2
    rw [← c, ← m] at a1 a2
    have b1 := Rat.le_of_mul_le_mul_right a1 hp
    have b2 := Rat.le_of_mul_le_mul_right a2 hp
    grind
  · have lh : lo < hi := by
      obtain ⟨j, hj, e⟩ := h2
      have := (hb j hj).2
      grind
    obtain ⟨j, hj, e⟩ := h2
    obtain ⟨i, hi', e2⟩ := h3
    have a1 := sumN_lt l1 hi' (Rat.mul_lt_mul_of_pos_left (by rw [e2]; exact lh) (rmN_pos hw hr.dis hi'))
    have a2 := sumN_lt l2 hj (Rat.mul_lt_mul_of_pos_left (by rw [e]; exact lh) (rmN_pos hw hr.dis hj))
    rw [← c, ← m] at a1 a2
    exact ⟨Rat.lt_of_mul_lt_mul_right a1 (Rat.le_of_lt hp), Rat.lt_of_mul_lt_mul_right a2 (Rat.le_of_lt hp)⟩
theorem lim_lv0 {N L M : Nat} (hM : M = 274 * N + 455) (hs : 100000 * N + 400000 ≤ L) : 20000 * N + 200 * M + 200000 ≤ L := by omega
theorem lim_lv {N : Nat} (hs : 100000 * N + 400000 ≤ LIM) : 20000 * N + 200 * (274 * N + 455) + 200000 ≤ LIM := lim_lv0 rfl hs
theorem range_prs (ps : List (Rat × Rat)) {n : Nat} (f : Nat → D) (h : n = ps.length) (hf : ∀ k (hk : k < ps.length), f k = prD ps[k]) : (List.range n).map f = ps.map prD := by
  subst h
  refine List.ext_getElem (by simp) fun i h1 h2 => ?_
  have : i < ps.length := by simpa using h1
  simp [hf i this]
theorem fmod2 (k : Nat) : ((k : Int)).fmod 2 = ((k % 2 : Nat) : Int) := by rw [Int.fmod_eq_emod_of_nonneg _ (by omega)]; omega
theorem fn_level_eq {L : Lh} {N n : Nat} {t : List Spo} (ht : L[n]? = some (.lst (t.map spD))) (h : SzT N t) (hw : WPos t) (hd : Dis (xsO t)) (hn : t.length ≤ 8) (h0 : 2 ≤ t.length) (hs : 100000 * N + 400000 ≤ LIM) : fn_level [.loc n] L = .val (.tup [pol (lvPoly t), fr (firstE t)]) L := by
  apply wpR.eq
  unfold fn_level d_level
  refine wp_run rfl ?_
  have z1 := fn_first_error_eq ht h hw hd hn (by omega) (by omega)
  simp [z1]
  have ht1 := get_app (X := [.lst []]) ht
  have hm1 := get_last (L := L) (c := .lst [])
  generalize hL1 : L ++ [Cell.lst []] = L1 at *
  obtain ⟨s0, r, rfl⟩ : ∃ s0 r, t = s0 :: r := by
    cases t with
    | nil => simp at h0
    | cons s0 r => exact ⟨s0, r, rfl⟩
  have sl := sliceD_from (xs := (s0 :: r).map spD) 1 ht1
  have sl' : sliceD (.loc n) (some 1) none L1 = .val (.loc L1.length) (L1 ++ [.lst (r.map spD)]) := sl
  simp [sl']
  have hm2 := get_app (X := [.lst (r.map spD)]) hm1
  have hs2 := get_last (L := L1) (c := .lst (r.map spD))
  have pre2 : Pre L (L1 ++ [.lst (r.map spD)]) := by rw [← hL1]; exact Pre.new.app
  generalize hL2 : L1 ++ [Cell.lst (r.map spD)] = L2 at *
  have hne : L.length ≠ L1.length := by rw [← hL1]; simp
  generalize hT : s0 :: r = t at *
  have hrl : r.length = t.length - 1 := by rw [← hT]; simp
  have hrk : ∀ k (hk : k < r.length), r[k].x = at0 (xsO t) (k + 1) ∧ r[k].y = at0 (ysO t) (k + 1) ∧ r[k].w = at0 (wsO t) (k + 1) := fun k hk => by
    have hk1 : k + 1 < t.length := by omega
    rw [xsO_at hk1, ysO_at hk1, wsO_at hk1]
    subst hT
    simp
  refine wp_for (fun k Γ L' => (∃ v3 v4 v5 v6 v7, Γ = [some (.loc n), some (fr (firstE t)), some (.loc L.length), v3, v4, v5, v6, v7]) ∧ Pre L L' ∧ L'[L1.length]? = some (.lst (r.map spD)) ∧ L'[L.length]? = some (.lst (((lvPairs t).take k).map prD))) ⟨⟨_, _, _, _, _, rfl⟩, pre2, hs2, by simpa using hm2⟩ (fun _ _ _ _ q => q.2.2.1) (fun k hk Γ L' J hJ hI => ?_) (fun Γ L' hI => ?_)
  · obtain ⟨⟨v3, v4, v5, v6, v7, rfl⟩, q1, q2, q3⟩ := hI
    have hk' : k < r.length := by simpa using hk
    obtain ⟨e1, e2, e3⟩ := hrk k hk'
    simp only [enumD_get, List.getElem_map]
    simp [fmod2]
    have fin : ∀ z : Rat, z = sg (k + 1) * firstE t → wpS ((sDrop
          (eMt "list" mAppend (eVar 2)
            (aCons
              (eTup
                (aCons (eVar 4)
                  (aCons
                    (eCall fn_less (aCons (eVar 5) (aCons (eCall fn_over (aCons (eVar 7) (aCons (eVar 6) aNil))) aNil)))
                    aNil)))
              aNil))) [some (.loc n), some (fr (firstE t)), some (.loc L.length), some (.int k), some (fr r[k].x), some (fr r[k].y), some (fr r[k].w), some (fr z)] L')
        (((Po.fn L (fun b L1 => b = D.tup [pol (lvPoly t), fr (firstE t)] ∧ L1 = L) noE).seq
      (sRet (eTup (aCons (eCall fn_through (aCons (eVar 2) aNil)) (aCons (eVar 1) aNil))))).loop J) := fun z hz => by
      have sz := sgh_sz (k := k + 1) (firstE_sz h hw hd hn (by omega))
      rw [← hz] at sz
      have sw := h.ws.get (k := k + 1) (by simp; omega)
      have sy := h.ys.get (k := k + 1) (by simp; omega)
      rw [← at0_lt (by simp; omega)] at sw sy
      have w0 := w_ne hw (k := k + 1) (by omega)
      have a1 := fn_over_eq L' (Fit.of sz (by omega)) (Fit.of sw (by omega)) w0
      have a2 := fn_less_eq L' (Fit.of sy (by omega)) (Fit.of (sz.div sw w0) (by omega))
      have a3 : z / at0 (wsO t) (k + 1) = sg (k + 1) * firstE t / at0 (wsO t) (k + 1) := by rw [hz]
      have ln : (((lvPairs t).take k).map prD).length ≤ 100000 := by simp; omega
      rw [e1, e2, e3]
      simp [q3, a1, a2]
      rw [mAppend_eq q3 ln]
      refine hJ _ _ ⟨⟨_, _, _, _, _, rfl⟩, q1.set (Nat.le_refl _), get_set_ne q2 hne, ?_⟩
      rw [get_set q3]
      have lk : k < (lvPairs t).length := by simp; omega
      rw [List.take_succ_eq_append_getElem lk, lvPairs_at (by omega), a3]
      simp [prD]
    refine wp_ifE (fun q => ?_) (fun q => ?_)
    · have hq : k % 2 = 1 := by omega
      simp
      have := fin (firstE t) (by unfold sg; rw [if_pos (by omega)]; grind)
      simpa using this
    · have hq : ¬ k % 2 = 1 := by omega
      simp [fn_opposite_eq]
      have := fin (-(firstE t)) (by unfold sg; rw [if_neg (by omega)]; grind)
      simpa using this
  · obtain ⟨⟨v3, v4, v5, v6, v7, rfl⟩, q1, q2, q3⟩ := hI
    have el : (enumD (r.map spD)).length = (lvPairs t).length := by simp; omega
    rw [el, List.take_length] at q3
    have hl7 : (lvPairs t).length ≤ 7 := by rw [lvPairs_len]; omega
    have lim : 20000 * N + 200 * (274 * N + 455) + 200000 ≤ LIM := lim_lv hs
    have th := fn_through_eq q3 (lv_szx h) (lv_szy h hw hd hn) (lv_dis hd) hl7 lim
    have th' : through (lvPairs t) = lvPoly t := rfl
    rw [th'] at th
    simp [th]
    exact wp_truncP q1 (by simp) ⟨rfl, rfl⟩
def k_NOUGHT_fractions : D := .tup [.int 0, .int 1]
def k_ONE_fractions : D := .tup [.int 1, .int 1]
def k_NOUGHT_levers : D := .tup [.int 0, .int 1]
def k_ONE_levers : D := .tup [.int 1, .int 1]
noncomputable def d_law_light : S3 :=
    (sSeq (sIf (tE (eOp fEq (eCall fn_law_draw (aCons (eVar 0) (aCons (eC (.int 2)) aNil))) (eC (.int 0)))) (sRet (eTup (aCons (eC (.int 1)) (aCons (eC (.int 1)) aNil)))) sNext)
    (sRet (eCall fn_law_fraction (aCons (eOp fAdd (eC (.int 1)) (eCall fn_law_draw (aCons (eVar 0) (aCons (eC (.int 9)) aNil)))) (aCons (eOp fAdd (eC (.int 1)) (eCall fn_law_draw (aCons (eVar 0) (aCons (eC (.int 9)) aNil)))) aNil)))))
noncomputable def fn_law_light : Fn3 := run3 1 1 d_law_light
noncomputable def d_law_few_numbers : S3 :=
    (sSeq (sSet 2 (eOp fAdd (eC (.int 1)) (eCall fn_law_draw (aCons (eVar 0) (aCons (eC (.int 3)) aNil)))))
    (sSeq (sSet 3 (eOp fSub (eCall fn_law_draw (aCons (eVar 0) (aCons (eC (.int 5)) aNil))) (eVar 1)))
    (sSeq (sSet 4 (eLst aNil))
    (sSeq (sFor (iR1 (aCons (eVar 1) aNil)) (gN 5) (sSeq (sDrop (eMt "list" mAppend (eVar 4) (aCons (eCall fn_law_fraction (aCons (eVar 3) (aCons (eVar 2) aNil))) aNil)))
    (sSet 3 (eOp fAdd (eOp fAdd (eVar 3) (eC (.int 1))) (eCall fn_law_draw (aCons (eVar 0) (aCons (eC (.int 2)) aNil)))))))
    (sRet (eVar 4))))))
noncomputable def fn_law_few_numbers : Fn3 := run3 2 6 d_law_few_numbers
noncomputable def d_law_small : S3 :=
    (sRet (eCall fn_law_fraction (aCons (eOp fSub (eCall fn_law_draw (aCons (eVar 0) (aCons (eC (.int 19)) aNil))) (eC (.int 9))) (aCons (eOp fAdd (eC (.int 1)) (eCall fn_law_draw (aCons (eVar 0) (aCons (eC (.int 3)) aNil)))) aNil))))
noncomputable def fn_law_small : Fn3 := run3 1 1 d_law_small
noncomputable def d_law_poly : S3 :=
    (sSeq (sSet 2 (eLst aNil))
    (sSeq (sFor (iR1 (aCons (eCall fn_law_draw (aCons (eVar 0) (aCons (eOp fAdd (eVar 1) (eC (.int 1))) aNil))) aNil)) (gN 3) (sDrop (eMt "list" mAppend (eVar 2) (aCons (eCall fn_law_small (aCons (eVar 0) aNil)) aNil))))
    (sSeq (sWhile (tAnd3 (tE (eOp fNe (eVar 2) (eLst aNil))) (tE (eOp fEq (eOp fIx (eOp fIx (eVar 2) (eUn fNeg (eC (.int 1)))) (eC (.int 0))) (eC (.int 0))))) (sDrop (eMt0 "list" mPop (eVar 2))))
    (sRet (eCall fTuple (aCons (eVar 2) aNil))))))
noncomputable def fn_law_poly : Fn3 := run3 2 4 d_law_poly
noncomputable def d_law_at : S3 :=
    (sSeq (sSet 2 (eTup (aCons (eC (.int 0)) (aCons (eC (.int 1)) aNil))))
    (sSeq (sFor (iRev (eVar 0)) (gN 3) (sSet 2 (eCall fn_law_plus (aCons (eCall fn_law_times (aCons (eVar 2) (aCons (eVar 1) aNil))) (aCons (eVar 3) aNil)))))
    (sRet (eVar 2))))
noncomputable def fn_law_at : Fn3 := run3 2 4 d_law_at
theorem Grow.over {n m : Nat} {L0 L L' : Lh} (a : Grow n L0 L) (b : Grow m L L') (hm : L0.length ≤ m) : Grow n L0 L' := ⟨Nat.le_trans a.le b.le, fun k hk hk2 => by
  rw [b.at_ k (Nat.lt_of_lt_of_le hk a.le) (by omega)]; exact a.at_ k hk hk2⟩
theorem PotAt.grow {n m : Nat} {L L' : Lh} (p : PotAt L n) (b : Grow m L L') (hm : n ≠ m) : PotAt L' n := by
  obtain ⟨a, c, h1, h2⟩ := p
  exact ⟨a, c, b.keep h1 hm, h2⟩
theorem trim_snoc0 : ∀ r : List Rat, trim (r ++ [0]) = trim r
  | [] => by simp [trim]
  | c :: r => by rw [List.cons_append, trim, trim_snoc0 r, trim]
/-- noughts at the end of a list are taken off -/
theorem strip_loop {L : Lh} {m i : Nat} {Γ : G3} {P : Po} (hΓ : Γ[i]? = some (some (.loc m))) : ∀ {ps : List Rat}, L[m]? = some (.lst (ps.map fr)) → ps.length ≤ 100000 → (∀ L', L'[m]? = some (.lst ((trim ps).map fr)) → Grow m L L' → P.nx Γ L') →
    wpS (sWhile (tAnd3 (tE (eOp fNe (eVar i) (eLst aNil))) (tE (eOp fEq (eOp fIx (eOp fIx (eVar i) (eUn fNeg (eC (.int 1)))) (eC (.int 0))) (eC (.int 0))))) (sDrop (eMt0 "list" mPop (eVar i))) Γ L) P := by
  intro ps hL hl h
  refine wp_whl (fun k Γ' L' => Γ' = Γ ∧ k ≤ ps.length ∧ L'[m]? = some (.lst ((ps.take k).map fr)) ∧ trim (ps.take k) = trim ps ∧ Grow m L L') ps.length ⟨rfl, Nat.le_refl _, by rw [List.take_length]; exact hL, by rw [List.take_length], Grow.refl _ _⟩ (fun k Γ' L' J hJ hI => ?_)
  obtain ⟨rfl, hk, h1, h2, g⟩ := hI
  have hv : eVar i Γ' L' = .val (.loc m) L' := by unfold eVar; rw [hΓ]
  have hv2 : ∀ X, eVar i Γ' X = .val (.loc m) X := fun X => by unfold eVar; rw [hΓ]
  have g1 : Grow m L (L' ++ [.lst []]) := g.trans Grow.app
  have q1 := encF.eqL (as := ps.take k) (bs := []) (get_app (X := [.lst []]) h1) (get_last (L := L') (c := .lst []))
  have h3 := get_app (X := [.lst []]) h1
  generalize hX : L' ++ [Cell.lst []] = L1 at *
  cases k with
  | zero =>
    simp [hΓ, hX, q1.2]
    refine h _ ?_ g1
    rw [h3, ← h2, List.take_zero]; rfl
  | succ k =>
    have hk' : k < ps.length := by omega
    have ne2 : ps ≠ [] := by intro z; subst z; simp at hk'
    rw [take_snoc hk'] at h3
    have i3 := items_loc h3
    have a3 : atI ((ps.take k ++ [ps[k]]).map fr) (-1) = some (fr ps[k]) := by rw [List.map_append]; exact atI_m1 _ _
    have fx : fIx (.loc m) (.int (-1)) L1 = .val (fr ps[k]) L1 := fIx_listS (by rw [itemsT_loc]; exact i3) a3
    simp [hΓ, hX, q1.2, ne2, fx]
    refine wp_wh (fun z => ?_) (fun z => ?_)
    · have z0 : ps[k] = 0 := z
      simp [hΓ, h3]
      rw [List.map_append] at h3
      have mp := mPop_eq h3
      rw [mp]
      refine hJ k _ _ (by omega) ⟨rfl, by omega, get_set h3, ?_, ⟨by simpa using g1.le, fun j hj hjm => by rw [List.getElem?_set_ne (Ne.symm hjm)]; exact g1.at_ j hj hjm⟩⟩
      rw [← h2, take_snoc hk', z0, trim_snoc0]
    · have z0 : ps[k] ≠ 0 := z
      refine h _ ?_ g1
      rw [h3, ← h2, take_snoc hk', trim_snoc z0]
theorem rat_pos {a b : Int} (ha : 0 < a) (hb : 0 < b) : 0 < Rat.divInt a b := by
  have := divInt_lt (a := 0) (b := 1) (c := a) (d := b) (by omega) hb (by omega)
  rwa [divInt_1] at this
theorem divInt_sz {a b : Int} {n : Nat} (hb : b ≠ 0) (h1 : a.natAbs < 2 ^ n) (h2 : b.natAbs < 2 ^ n) : Sz n (Rat.divInt a b) := sz_divInt hb h1 h2
theorem law_small {L : Lh} {n : Nat} {Q : D → Lh → Prop} {E : Str → Lh → Prop} (hp : PotAt L n) (h : ∀ q L', Sz 5 q → Grow n L L' → PotAt L' n → Q (fr q) L') : wpR (fn_law_small [.loc n] L) Q E := by
  unfold fn_law_small d_law_small
  refine wp_run rfl ?_
  simp
  refine law_draw (m := 19) hp (by decide) (by decide) fun a L1 a0 a1 g1 p1 => ?_
  simp
  refine law_draw (m := 3) p1 (by decide) (by decide) fun b L2 b0 b1 g2 p2 => ?_
  have hb : 1 + b ≠ 0 := by omega
  simp [fn_law_fraction_eq _ hb]
  exact wp_truncG (by simp) (g1.trans g2) p2 hp.lt fun L'' g p => h _ _ (divInt_sz hb (by omega) (by omega)) g p
theorem law_light {L : Lh} {n : Nat} {Q : D → Lh → Prop} {E : Str → Lh → Prop} (hp : PotAt L n) (h : ∀ q L', Sz 5 q → 0 < q → Grow n L L' → PotAt L' n → Q (fr q) L') : wpR (fn_law_light [.loc n] L) Q E := by
  unfold fn_law_light d_law_light
  refine wp_run rfl ?_
  simp
  refine law_draw (m := 2) hp (by decide) (by decide) fun a L1 a0 a1 g1 p1 => ?_
  simp
  refine wp_if (fun z => ?_) (fun z => ?_)
  · have e1 : D.tup [.int 1, .int 1] = fr 1 := rfl
    simp [e1]
    exact wp_truncG (by simp) g1 p1 hp.lt fun L'' g p => h _ _ (sz1.mono (by omega)) (by decide) g p
  · simp
    refine law_draw (m := 9) p1 (by decide) (by decide) fun b L2 b0 b1 g2 p2 => ?_
    simp
    refine law_draw (m := 9) p2 (by decide) (by decide) fun c L3 c0 c1 g3 p3 => ?_
    have hc : 1 + c ≠ 0 := by omega
    simp [fn_law_fraction_eq _ hc]
    exact wp_truncG (by simp) ((g1.trans g2).trans g3) p3 hp.lt fun L'' g p => h _ _ (divInt_sz hc (by omega) (by omega)) (rat_pos (by omega) (by omega)) g p
theorem law_value {L : Lh} {n : Nat} {Q : D → Lh → Prop} {E : Str → Lh → Prop} (hp : PotAt L n) (h : ∀ q L', Sz 41 q → Grow n L L' → PotAt L' n → Q (fr q) L') : wpR (fn_law_value [.loc n] L) Q E := by
  have p12 : CPow 10 12 := ⟨by decide, by decide, by decide⟩
  have c2 : CMulX 2 1000000000000 := cmulS (by decide) (by decide)
  unfold fn_law_value d_law_value
  refine wp_run rfl ?_
  simp
  refine law_draw (m := 4) hp (by decide) (by decide) fun a L1 a0 a1 g1 p1 => ?_
  simp
  refine wp_if (fun z => ?_) (fun z => ?_)
  · simp [p12, c2]
    refine law_draw (m := 1999999999999) p1 (by decide) (by decide) fun b L2 b0 b1 g2 p2 => ?_
    simp [p12]
    refine law_draw (m := 999999999999) p2 (by decide) (by decide) fun c L3 c0 c1 g3 p3 => ?_
    have hc : 1 + c ≠ 0 := by omega
    simp [fn_law_fraction_eq _ hc]
    exact wp_truncG (by simp) ((g1.trans g2).trans g3) p3 hp.lt fun L'' g p => h _ _ (divInt_sz hc (by omega) (by omega)) g p
  · simp
    refine wp_if (fun z => ?_) (fun z => ?_)
    · simp
      refine law_draw (m := 199) p1 (by decide) (by decide) fun b L2 b0 b1 g2 p2 => ?_
      simp
      refine law_draw (m := 12) p2 (by decide) (by decide) fun c L3 c0 c1 g3 p3 => ?_
      have hc : 1 + c ≠ 0 := by omega
      simp [fn_law_fraction_eq _ hc]
      exact wp_truncG (by simp) ((g1.trans g2).trans g3) p3 hp.lt fun L'' g p => h _ _ (divInt_sz hc (by omega) (by omega)) g p
    · simp
      refine law_draw (m := 9) p1 (by decide) (by decide) fun b L2 b0 b1 g2 p2 => ?_
      simp [fr_irat]
      exact wp_truncG (by simp) (g1.trans g2) p2 hp.lt fun L'' g p => h _ _ (sz_int (by omega) (by omega)) g p
theorem law_weight {L : Lh} {n : Nat} {Q : D → Lh → Prop} {E : Str → Lh → Prop} (hp : PotAt L n) (h : ∀ q L', Sz 21 q → 0 < q → Grow n L L' → PotAt L' n → Q (fr q) L') : wpR (fn_law_weight [.loc n] L) Q E := by
  have p6 : CPow 10 6 := ⟨by decide, by decide, by decide⟩
  unfold fn_law_weight d_law_weight
  refine wp_run rfl ?_
  simp
  refine law_draw (m := 3) hp (by decide) (by decide) fun a L1 a0 a1 g1 p1 => ?_
  simp
  refine wp_if (fun z => ?_) (fun z => ?_)
  · have e1 : D.tup [.int 1, .int 1] = fr 1 := rfl
    simp [e1]
    exact wp_truncG (by simp) g1 p1 hp.lt fun L'' g p => h _ _ (sz1.mono (by omega)) (by decide) g p
  · have fin : ∀ m : Int, (m = 9 ∨ m = 999999) → wpS (sRet (eCall fn_law_fraction (aCons (eOp fAdd (eC (.int 1)) (eCall fn_law_draw (aCons (eVar 0) (aCons (eVar 2) aNil)))) (aCons (eOp fAdd (eC (.int 1)) (eCall fn_law_draw (aCons (eVar 0) (aCons (eVar 2) aNil)))) aNil))) [some (.loc n), some (.int a), some (.int m)] (L1 ++ [.lst [.int 9, .int 999999]])) (Po.fn L Q E) := fun m hm => by
      simp
      refine law_draw (m := m) p1.app (by omega) (by omega) fun b L2 b0 b1 g2 p2 => ?_
      simp
      refine law_draw (m := m) p2 (by omega) (by omega) fun c L3 c0 c1 g3 p3 => ?_
      have hc : 1 + c ≠ 0 := by omega
      simp [fn_law_fraction_eq _ hc]
      exact wp_truncG (by simp) (((g1.trans Grow.app).trans g2).trans g3) p3 hp.lt fun L'' g p => h _ _ (divInt_sz hc (by omega) (by omega)) (rat_pos (by omega) (by omega)) g p
    have : a = 1 ∨ a = 2 := by omega
    rcases this with rfl | rfl
    · simp [p6, fIx]; have := fin 9 (.inl rfl); simpa using this
    · simp [p6, fIx]; have := fin 999999 (.inr rfl); simpa using this
theorem law_few_numbers {L : Lh} {n : Nat} {many : Int} {Q : D → Lh → Prop} {E : Str → Lh → Prop} (hp : PotAt L n) (hm0 : 0 ≤ many) (hm : many ≤ 12)
    (h : ∀ ps m L', L'[m]? = some (.lst (ps.map fr)) → L.length ≤ m → Grow n L L' → PotAt L' n → (ps.length : Int) = many → Rise ps → SzP 8 ps → Q (.loc m) L') : wpR (fn_law_few_numbers [.loc n, .int many] L) Q E := by
  obtain ⟨many, rfl⟩ := Int.eq_ofNat_of_zero_le hm0
  have hn := hp.lt
  have hne : L.length ≠ n := by omega
  unfold fn_law_few_numbers d_law_few_numbers
  refine wp_run rfl ?_
  simp
  refine law_draw (m := 3) hp (by decide) (by decide) fun b L1 b0 b1 g1 p1 => ?_
  simp
  refine law_draw (m := 5) p1 (by decide) (by decide) fun a L2 a0 a1 g2 p2 => ?_
  simp [show many ≤ 1000000 by omega]
  have hl2 : L.length ≤ L2.length := Nat.le_trans g1.le g2.le
  have hne2 : L2.length ≠ n := by omega
  refine wp_for (fun k Γ L' => ∃ (ps : List Rat) (at_ : Int), (∃ v5, Γ = [some (.loc n), some (.int many), some (.int (1 + b)), some (.int at_), some (.loc L2.length), v5]) ∧ L'[L2.length]? = some (.lst (ps.map fr)) ∧ Grow n L L' ∧ PotAt L' n ∧ ps.length = k ∧ Rise ps ∧ SzP 8 ps ∧ at_.natAbs ≤ 20 + k * 2 ∧ ∀ i, i < ps.length → at0 ps i < Rat.divInt at_ (1 + b))
    ⟨[], a - many, ⟨_, rfl⟩, by simp, (g1.trans g2).trans Grow.app, p2.app, rfl, Rise.nil, szP_nil, by omega, by simp⟩ (fun _ _ _ _ _ => trivial) (fun k hk Γ L3 J hJ hI => ?_) (fun Γ L3 hI => ?_)
  · obtain ⟨ps, at_, ⟨v5, rfl⟩, h1, g3, p3, hl, hr, hs, hab, hlt⟩ := hI
    have hk' : k < many := by simpa using hk
    have hbn : 1 + b ≠ 0 := by omega
    simp [h1, fn_law_fraction_eq _ hbn]
    rw [mAppend_eq h1 (by simp; omega), map_snoc]
    simp
    have h3 := get_set (d := .lst ((ps ++ [Rat.divInt at_ (1 + b)]).map fr)) h1
    refine law_draw (m := 2) (p3.set hne2) (by decide) (by decide) fun d L4 d0 d1 g4 p4 => ?_
    simp
    have e0 : ps.map fr ++ [fr (Rat.divInt at_ (1 + b))] = (ps ++ [Rat.divInt at_ (1 + b)]).map fr := map_snoc
    rw [e0] at g4
    refine hJ _ _ ⟨ps ++ [Rat.divInt at_ (1 + b)], at_ + 1 + d, ⟨_, rfl⟩, g4.keep h3 hne2, (g3.set hl2).trans g4, p4, by simp [hl], hr.snoc hlt, hs.snoc (divInt_sz hbn (by omega) (by omega)), by omega, fun i hi => ?_⟩
    have q : Rat.divInt at_ (1 + b) < Rat.divInt (at_ + 1 + d) (1 + b) := divInt_lt (by omega) (by omega) (Int.mul_lt_mul_of_pos_right (by omega) (by omega))
    simp at hi
    by_cases e : i = ps.length
    · subst e; rw [at0_snoc_eq]; exact q
    · rw [at0_snoc_lt (by omega)]
      have := hlt i (by omega)
      grind
  · obtain ⟨ps, at_, ⟨v5, rfl⟩, h1, g3, p3, hl, hr, hs, hab, hlt⟩ := hI
    simp
    refine wp_truncGL hl2 h1 (closeds_frs _ _) g3 p3 hn fun m' L'' a b c d => h ps m' L'' b a c d ?_ hr hs
    simp at hl; omega
theorem law_poly {L : Lh} {n : Nat} {most : Int} {Q : D → Lh → Prop} {E : Str → Lh → Prop} (hp : PotAt L n) (hm0 : 0 ≤ most) (hm : most ≤ 20)
    (h : ∀ ps L', (ps.length : Int) ≤ most → SzP 5 ps → trim ps = ps → Grow n L L' → PotAt L' n → Q (pol ps) L') : wpR (fn_law_poly [.loc n, .int most] L) Q E := by
  have hn := hp.lt
  have hne : L.length ≠ n := by omega
  unfold fn_law_poly d_law_poly
  refine wp_run rfl ?_
  simp
  refine law_draw (m := most + 1) hp.app (by omega) (by omega) fun d L1 d0 d1 g1 p1 => ?_
  obtain ⟨d, rfl⟩ := Int.eq_ofNat_of_zero_le d0
  have h1 := g1.keep (get_last (L := L) (c := .lst [])) hne
  have g1' : Grow n L L1 := Grow.app.trans g1
  simp [show d ≤ 1000000 by omega]
  refine wp_for (fun k Γ L' => ∃ ps : List Rat, (∃ v3, Γ = [some (.loc n), some (.int most), some (.loc L.length), v3]) ∧ L'[L.length]? = some (.lst (ps.map fr)) ∧ Grow n L L' ∧ PotAt L' n ∧ ps.length = k ∧ SzP 5 ps) ⟨[], ⟨_, rfl⟩, by simpa using h1, g1', p1, rfl, szP_nil⟩ (fun _ _ _ _ _ => trivial) (fun k hk Γ L2 J hJ hI => ?_) (fun Γ L2 hI => ?_)
  · obtain ⟨ps, ⟨v3, rfl⟩, h2, g2, p2, hl, hs⟩ := hI
    have hk' : k < d := by simpa using hk
    simp [h2]
    refine law_small p2 fun q L3 sq g3 p3 => ?_
    have h3 := g3.keep h2 hne
    simp
    rw [mAppend_eq h3 (by simp; omega), map_snoc]
    exact hJ _ _ ⟨ps ++ [q], ⟨_, rfl⟩, get_set h3, (g2.trans g3).set (Nat.le_refl _), p3.set hne, by simp [hl], hs.snoc sq⟩
  · obtain ⟨ps, ⟨v3, rfl⟩, h2, g2, p2, hl, hs⟩ := hI
    simp at hl
    simp only [Po.seq_nx, wp_sSeq]
    refine strip_loop rfl h2 (by omega) fun L3 h3 g3 => ?_
    have e : D.tup ((trim ps).map fr) = pol (trim ps) := rfl
    have i3 := items_loc h3
    simp [i3, e]
    refine wp_truncG (by simp) (g2.over g3 (Nat.le_refl _)) (p2.grow g3 (Ne.symm hne)) hn fun L'' g p => h _ _ ?_ hs.trim (trim_trim _) g p
    have := trim_len ps
    omega
theorem fn_law_at_eq {n m : Nat} {ps : List Rat} {x : Rat} (L : Lh) (h1 : SzP n ps) (h2 : Sz m x) (hk : (ps.length + 1) * (n + m + 2) + 1 ≤ LIM) : fn_law_at [pol ps, fr x] L = .val (fr (ev ps x)) L := by
  have e0 : D.tup [.int 0, .int 1] = fr 0 := rfl
  rw [Nat.succ_mul] at hk
  apply wpR.eq
  unfold fn_law_at d_law_at
  refine wp_run rfl ?_
  simp [e0]
  refine wp_for (fun i Γ L' => L' = L ∧ ∃ v, Γ = [some (pol ps), some (fr x), some (fr (ev (ps.drop (ps.length - i)) x)), v]) ⟨rfl, _, by simp; rfl⟩ (fun _ _ _ _ _ => trivial) (fun i hi Γ L' J hJ h => ?_) (fun Γ L' h => ?_)
  · obtain ⟨rfl, v, rfl⟩ := h
    have hi' : i < ps.length := by simpa using hi
    have s1 : Sz (ps.length * (n + m + 2) + 1) (ev (ps.drop (ps.length - i)) x) := ev_sz (fun p hp => h1 p (List.mem_of_mem_drop hp)) h2 (by simp)
    have hp : Sz n (ps[ps.length - 1 - i]'(by omega)) := h1 _ (List.getElem_mem _)
    have e1 := fn_law_times_eq L' (Fit.of s1 (by omega)) (Fit.of h2 (by omega))
    have e2 := fn_law_plus_eq L' (Fit.of (s1.mul h2) (by omega)) (Fit.of hp (by omega))
    have e3 : ev (ps.drop (ps.length - (i + 1))) x = ev (ps.drop (ps.length - i)) x * x + ps[ps.length - 1 - i]'(by omega) := by
      have : ps.length - (i + 1) < ps.length := by omega
      have e : ps.length - (i + 1) = ps.length - 1 - i := by omega
      rw [List.drop_eq_getElem_cons this, ev_cons, show ps.length - (i + 1) + 1 = ps.length - i by omega]
      simp only [e]
    simp [e1, e2]
    exact hJ _ _ ⟨rfl, _, by rw [e3]⟩
  · obtain ⟨rfl, v, rfl⟩ := h
    simp
theorem spots_of {R : Rat → Rat → Prop} : ∀ {ys : List D} {xs : List Rat}, ys.length = xs.length → (∀ k (h : k < ys.length), ∃ v w, ys[k] = spD ⟨at0 xs k, v, w⟩ ∧ R v w) → ∃ t : List Spo, ys = t.map spD ∧ xsO t = xs ∧ ∀ s ∈ t, R s.y s.w
  | [], [], _, _ => ⟨[], rfl, rfl, fun _ h => nomatch h⟩
  | y :: ys, x :: xs, hl, h => by
    obtain ⟨v, w, e, hr⟩ := h 0 (by simp)
    obtain ⟨t, h1, h2, h3⟩ := spots_of (ys := ys) (xs := xs) (by simpa using hl) fun k hk => h (k + 1) (by simpa using hk)
    refine ⟨⟨x, v, w⟩ :: t, ?_, ?_, ?_⟩
    · rw [h1, List.map_cons]
      have e2 : y = spD ⟨x, v, w⟩ := e
      rw [e2]
    · show x :: xsO t = x :: xs
      rw [h2]
    · intro s hs
      rcases List.mem_cons.mp hs with rfl | hs
      · exact hr
      · exact h3 s hs
theorem fr_neg (p : Rat) : D.tup [.int (-p.num), .int p.den] = fr (-p) := by unfold fr; rw [Rat.neg_num, Rat.neg_den]
theorem sp_mk (x y w : Rat) : D.tup [fr x, fr y, fr w] = spD ⟨x, y, w⟩ := rfl
theorem map_snocS {t : List Spo} {s : Spo} : t.map spD ++ [spD s] = (t ++ [s]).map spD := by simp
theorem xsO_snoc {t : List Spo} {s : Spo} : xsO (t ++ [s]) = xsO t ++ [s.x] := by simp [xsO]
theorem ysO_snoc {t : List Spo} {s : Spo} : ysO (t ++ [s]) = ysO t ++ [s.y] := by simp [ysO]
theorem wsO_snoc {t : List Spo} {s : Spo} : wsO (t ++ [s]) = wsO t ++ [s.w] := by simp [wsO]
/-- level tells what is right -/
theorem level_is {t : List Spo} {q : List Rat} {g : Rat} (hr : Rise (xsO t)) (hw : WPos t) (h2 : 2 ≤ t.length) (hq : q.length ≤ t.length - 1) (hq2 : trim q = q) (h : ∀ k, k < t.length → at0 (ysO t) k = ev q (at0 (xsO t) k) + sg k * g / at0 (wsO t) k) : lvPoly t = q ∧ firstE t = g := by
  have := lv_unique (q := q) (g := g) hr hw h2 hq (fun k hk => by rw [h k hk]; grind)
  exact ⟨by rw [← this.2, hq2], this.1.symm⟩
/-- a told level, told anew: alike -/
theorem ne_level {L : Lh} {q : List Rat} {g : Rat} : fNe (.tup [pol q, fr g]) (.tup [pol q, fr g]) L = .val (.bl false) L := by
  have h := (encP (encL encF) encF).ne (L := L) (a := (q, g)) (b := (q, g))
  rw [decide_eq_true rfl] at h
  exact h
theorem eqS_self {L : Lh} {n m : Nat} {t : List Spo} (h1 : L[n]? = some (.lst (t.map spD))) (h2 : L[m]? = some (.lst (t.map spD))) : fNe (.loc n) (.loc m) L = .val (.bl false) L := (encS.eqS h1 h2).2
theorem eqF_self {L : Lh} {n m : Nat} {t : List Rat} (h1 : L[n]? = some (.lst (t.map fr))) (h2 : L[m]? = some (.lst (t.map fr))) : fEq (.loc n) (.loc m) L = .val (.bl true) L ∧ fNe (.loc n) (.loc m) L = .val (.bl false) L := encF.eqS h1 h2
theorem range_map_fr (f : Nat → Rat) (n : Nat) : (List.range n).map (fun k => fr (f k)) = ((List.range n).map f).map fr := by simp
/-! ## references of a table, and exchanges -/
def RiseS (t : List Spo) : Prop := t.Pairwise fun a b => a.x < b.x
theorem riseS_iff {t : List Spo} : Rise (xsO t) ↔ RiseS t := by
  unfold RiseS
  rw [List.pairwise_iff_getElem]
  constructor
  · intro h i j hi hj hij
    have := h i j hij (by rw [xsO_len]; exact hj)
    rwa [xsO_at hi, xsO_at hj] at this
  · intro h i j hij hj
    rw [xsO_len] at hj
    rw [xsO_at hj, xsO_at (by omega)]
    exact h i j (by omega) hj hij
/-- the lists of some spots, in their order -/
def subs : List Spo → List (List Spo)
  | [] => [[]]
  | s :: t => subs t ++ (subs t).map (s :: ·)
theorem subs_len : ∀ t : List Spo, (subs t).length = 2 ^ t.length
  | [] => rfl
  | s :: t => by rw [subs, List.length_append, List.length_map, subs_len t, List.length_cons, Nat.pow_succ]; omega
theorem nil_subs : ∀ t : List Spo, [] ∈ subs t
  | [] => by simp [subs]
  | s :: t => by rw [subs]; exact List.mem_append_left _ (nil_subs t)
theorem mem_subs : ∀ {t r : List Spo}, RiseS t → RiseS r → (∀ s ∈ r, s ∈ t) → r ∈ subs t
  | t, [], _, _, _ => nil_subs t
  | [], a :: r, _, _, h => absurd (h a (by simp)) (by simp)
  | s :: t, a :: r, ht, hr, h => by
    rw [subs]
    have ht' := List.pairwise_cons.mp ht
    have hr' := List.pairwise_cons.mp hr
    by_cases e : a = s
    · subst e
      refine List.mem_append_right _ (List.mem_map.mpr ⟨r, mem_subs ht'.2 hr'.2 fun b hb => ?_, rfl⟩)
      rcases List.mem_cons.mp (h b (by simp [hb])) with rfl | q
      · exact absurd (hr'.1 b hb) Rat.lt_irrefl
      · exact q
    · have ha : a ∈ t := by
        rcases List.mem_cons.mp (h a (by simp)) with q | q
        · exact absurd q e
        · exact q
      refine List.mem_append_left _ (mem_subs ht'.2 hr fun b hb => ?_)
      rcases List.mem_cons.mp (h b hb) with q | q
      · exfalso
        subst q
        have h1 := ht'.1 a ha
        rcases List.mem_cons.mp hb with q2 | q2
        · exact e q2.symm
        · have h2 := hr'.1 b q2
          exact absurd h1 (by grind)
      · exact q
theorem countP_lt {α : Type} {p q : α → Bool} : ∀ {l : List α}, (∀ x ∈ l, p x = true → q x = true) → (∃ x ∈ l, q x = true ∧ p x = false) → l.countP p < l.countP q
  | [], _, h => by obtain ⟨x, hx, _⟩ := h; simp at hx
  | a :: l, h, he => by
    have mono : ∀ {l : List α}, (∀ x ∈ l, p x = true → q x = true) → l.countP p ≤ l.countP q := fun h => List.countP_mono_left h
    rw [List.countP_cons, List.countP_cons]
    obtain ⟨x, hx, h1, h2⟩ := he
    have m := mono (l := l) fun y hy => h y (by simp [hy])
    rcases List.mem_cons.mp hx with rfl | hx
    · rw [h2, h1]; simp; omega
    · have ih := countP_lt (l := l) (fun y hy => h y (by simp [hy])) ⟨x, hx, h1, h2⟩
      have := h a (by simp)
      by_cases pa : p a = true
      · rw [pa, this pa]; simp; omega
      · rw [if_neg pa]; omega
/-- how many references of a table have a greater bound -/
noncomputable def mu (t r : List Spo) : Nat := (subs t).countP fun l => decide (rabs (firstE r) < rabs (firstE l))
theorem mu_lt {t r r' : List Spo} (h : rabs (firstE r) < rabs (firstE r')) (hr : r' ∈ subs t) : mu t r' < mu t r := by
  refine countP_lt (fun x _ hx => ?_) ⟨r', hr, by simpa using h, by simp [Rat.lt_irrefl]⟩
  simp at hx ⊢
  grind
theorem mu_le (t r : List Spo) : mu t r ≤ 2 ^ t.length := by
  rw [← subs_len]; exact List.countP_le_length
/-- a greater bound -/
theorem gain {r : List Spo} {p : List Rat} {u b : Rat} {m : Nat → Rat} (hr : Rise (xsO r)) (hw : WPos r) (h1 : 1 ≤ r.length) (hp : p.length ≤ r.length - 1) (hu : u * u = 1) (hb : 0 ≤ b)
    (he : ∀ k, k < r.length → errN r p k = u * sg k * m k) (hm : ∀ k, k < r.length → b ≤ m k) (hs : ∃ k, k < r.length ∧ b < m k) : b < rabs (firstE r) := by
  have hpos := room_pos hw hr.dis (show 0 < r.length by omega)
  have mean := bound_mean (s := m) hr hw h1 hp hu (fun k hk => by have := hm k hk; grind) he
  have c : b * room r = sumN (fun j => rmN r j * b) r.length := by
    unfold room; rw [← sumN_mul]; exact sumN_congr fun j hj => by grind
  obtain ⟨k, hk, hlt⟩ := hs
  have a := sumN_lt (f := fun j => rmN r j * b) (g := fun j => rmN r j * m j) (fun j hj => Rat.mul_le_mul_of_nonneg_left (hm j hj) (Rat.le_of_lt (rmN_pos hw hr.dis hj))) hk (Rat.mul_lt_mul_of_pos_left hlt (rmN_pos hw hr.dis hk))
  rw [← c, ← mean] at a
  exact Rat.lt_of_mul_lt_mul_right a (Rat.le_of_lt hpos)
/-- the sign of a number -/
def sn (q : Rat) : Rat := if 0 < q then 1 else if q < 0 then -1 else 0
theorem sn_mul (q : Rat) : sn q * rabs q = q := by unfold sn rabs; split <;> split <;> grind
theorem sn_sq {q : Rat} (h : q ≠ 0) : sn q * sn q = 1 := by unfold sn; split <;> (try split) <;> grind
/-- an error, of a spot alone -/
def errS (p : List Rat) (s : Spo) : Rat := s.w * (s.y - ev p s.x)
theorem errN_at {t : List Spo} {p : List Rat} {k : Nat} (h : k < t.length) : errN t p k = errS p t[k] := by
  unfold errN errS; rw [xsO_at h, ysO_at h, wsO_at h]
/-- the errors of a level at its reference -/
theorem errS_level {r : List Spo} (hr : Rise (xsO r)) (hw : WPos r) (h2 : 2 ≤ r.length) {k : Nat} (hk : k < r.length) : errS (lvPoly r) r[k] = sg k * firstE r := by
  rw [← errN_at hk]
  unfold errN
  rw [lv_right hr hw h2 k hk]
  have a3 := w_ne hw hk
  grind
def place (r : List Spo) (x : Rat) : Nat := (r.filter fun s => decide (s.x < x)).length
theorem place_le (r : List Spo) (x : Rat) : place r x ≤ r.length := List.length_filter_le _ _
theorem place_at {x : Rat} : ∀ {r : List Spo}, RiseS r → ∀ k (hk : k < r.length), r[k].x < x ↔ k < place r x
  | [], _, k, hk => by simp at hk
  | a :: r, hr, k, hk => by
    have hr' := List.pairwise_cons.mp hr
    have ih := place_at (x := x) hr'.2
    by_cases h : a.x < x
    · have e : place (a :: r) x = place r x + 1 := by unfold place; rw [List.filter_cons_of_pos (by simpa using h)]; simp
      rw [e]
      cases k with
      | zero => simp [h]
      | succ k =>
        simp only [List.getElem_cons_succ]
        rw [ih k (by simpa using hk)]; omega
    · have e0 : r.filter (fun s => decide (s.x < x)) = [] := List.filter_eq_nil_iff.mpr fun b hb => by
        have := hr'.1 b hb
        simp; grind
      have e : place (a :: r) x = 0 := by unfold place; rw [List.filter_cons_of_neg (by simpa using h), e0]; rfl
      rw [e]
      cases k with
      | zero => simp; grind
      | succ k =>
        simp only [List.getElem_cons_succ]
        have hk2 : k < r.length := by simpa using hk
        have := hr'.1 (r[k]'hk2) (List.getElem_mem _)
        constructor
        · intro q; exfalso; grind
        · omega
def hasSg (h : Rat) (k : Nat) (way : Int) : Prop := (if k % 2 = 0 then sgn h else 0 - sgn h) = 0 ∨ (if k % 2 = 0 then sgn h else 0 - sgn h) = way
noncomputable def withSpot (r : List Spo) (h : Rat) (s : Spo) (way : Int) : List Spo :=
  if 0 < place r s.x ∧ hasSg h (place r s.x - 1) way then r.take (place r s.x - 1) ++ [s] ++ r.drop (place r s.x)
  else if place r s.x < r.length ∧ hasSg h (place r s.x) way then r.take (place r s.x) ++ [s] ++ r.drop (place r s.x + 1)
  else if place r s.x = 0 then s :: r.dropLast
  else r.drop 1 ++ [s]
theorem set_split {r : List Spo} {s : Spo} {i : Nat} (h : i < r.length) : r.take i ++ [s] ++ r.drop (i + 1) = r.set i s := by
  rw [List.set_eq_take_append_cons_drop, if_pos h]; simp
/-- one spot put in the place of another one -/
theorem rise_set {r : List Spo} {s : Spo} {i : Nat} (hr : RiseS r) (hi : i < r.length) (h1 : ∀ k (hk : k < r.length), k < i → r[k].x < s.x) (h2 : ∀ k (hk : k < r.length), i < k → s.x < r[k].x) : RiseS (r.set i s) := by
  unfold RiseS at *
  rw [List.pairwise_iff_getElem] at *
  intro a b ha hb hab
  rw [List.length_set] at ha hb
  rw [List.getElem_set, List.getElem_set]
  split
  · rename_i e; subst e
    rw [if_neg (by omega)]; exact h2 b hb hab
  · split
    · rename_i e; subst e; exact h1 a ha hab
    · exact hr a b ha hb hab
theorem sg_cases (k : Nat) : sg k = 1 ∨ sg k = -1 := by unfold sg; split <;> simp
theorem sgn_cast (q : Rat) : ((sgn q : Int) : Rat) = sn q := by unfold sgn sn; split <;> (try split) <;> rfl
theorem turned_cast (h : Rat) (k : Nat) : (((if k % 2 = 0 then sgn h else 0 - sgn h) : Int) : Rat) = sg k * sn h := by
  unfold sg
  split
  · rw [sgn_cast]; grind
  · rw [Rat.intCast_sub, sgn_cast]; simp; grind
theorem hasSg_iff {h : Rat} {k : Nat} {way : Int} : hasSg h k way ↔ (h = 0 ∨ sg k * sn h = (way : Rat)) := by
  unfold hasSg
  have e1 : ((if k % 2 = 0 then sgn h else 0 - sgn h) = 0) ↔ h = 0 := by
    rw [← Rat.intCast_eq_zero_iff, turned_cast]
    constructor
    · intro z
      have : sn h = 0 := by rcases sg_cases k with e | e <;> rw [e] at z <;> grind
      unfold sn at this
      split at this
      · grind
      · split at this <;> grind
    · intro z; subst z; unfold sn; simp
  have e2 : ((if k % 2 = 0 then sgn h else 0 - sgn h) = way) ↔ sg k * sn h = (way : Rat) := by
    rw [← turned_cast]
    constructor
    · intro z; rw [z]
    · intro z; exact_mod_cast z
  rw [e1, e2]
theorem set_gain {r : List Spo} {s : Spo} {i : Nat} {p : List Rat} {h : Rat} (hr : RiseS r) (hw : WPos r) (hws : 0 < s.w) (h2 : 2 ≤ r.length) (hi : i < r.length) (hp : p.length ≤ r.length - 1) (hR : RiseS (r.set i s)) (he : ∀ k (hk : k < r.length), errS p r[k] = sg k * h) (hb : rabs h < rabs (errS p s)) (hs : h = 0 ∨ sg i * sn h = sn (errS p s)) :
    rabs h < rabs (firstE (r.set i s)) := by
  have en0 : errS p s ≠ 0 := fun z => by
    rw [z] at hb
    have := rabs_nonneg h
    have e : rabs 0 = 0 := by unfold rabs; simp
    rw [e] at hb; grind
  have hwp : WPos (r.set i s) := fun q hq => by
    rcases List.mem_or_eq_of_mem_set hq with hq | rfl
    · exact hw q hq
    · exact hws
  obtain ⟨u, hu, h3, h4⟩ : ∃ u : Rat, u * u = 1 ∧ u * rabs h = h ∧ u * sg i = sn (errS p s) := by
    have sq := sg_sq i
    rcases hs with z | z
    · refine ⟨sg i * sn (errS p s), ?_, ?_, ?_⟩
      · have := sn_sq en0; grind
      · subst z
        have e : rabs 0 = 0 := by unfold rabs; simp
        rw [e]; grind
      · grind
    · by_cases h0 : h = 0
      · refine ⟨sg i * sn (errS p s), ?_, ?_, ?_⟩
        · have := sn_sq en0; grind
        · subst h0
          have e : rabs 0 = 0 := by unfold rabs; simp
          rw [e]; grind
        · grind
      · exact ⟨sn h, sn_sq h0, sn_mul h, by rw [← z]; grind⟩
  refine gain (p := p) (u := u) (m := fun k => if k = i then rabs (errS p s) else rabs h) (riseS_iff.mpr hR) hwp (by simp; omega) (by simpa using hp) hu (rabs_nonneg h) (fun k hk => ?_) (fun k hk => ?_) ⟨i, by simpa using hi, by simpa using hb⟩
  · rw [List.length_set] at hk
    rw [errN_at (by simpa using hk), List.getElem_set]
    by_cases e : i = k
    · subst e
      rw [if_pos rfl, if_pos rfl, h4, sn_mul]
    · rw [if_neg e, if_neg (Ne.symm e), he k hk]; grind
  · split
    · grind
    · exact Rat.le_refl
theorem withSpot_right {r : List Spo} {s : Spo} {p : List Rat} {h : Rat} (hr : RiseS r) (hw : WPos r) (hws : 0 < s.w) (h2 : 2 ≤ r.length) (hp : p.length ≤ r.length - 1) (he : ∀ k (hk : k < r.length), errS p r[k] = sg k * h) (hb : rabs h < rabs (errS p s)) (hx : ∀ q ∈ r, q.x ≠ s.x) :
    (withSpot r h s (sgn (errS p s))).length = r.length ∧ RiseS (withSpot r h s (sgn (errS p s))) ∧ (∀ q ∈ withSpot r h s (sgn (errS p s)), q = s ∨ q ∈ r) ∧ rabs h < rabs (firstE (withSpot r h s (sgn (errS p s)))) := by
  have en0 : errS p s ≠ 0 := fun z => by
    rw [z] at hb
    have := rabs_nonneg h
    have e : rabs 0 = 0 := by unfold rabs; simp
    rw [e] at hb; grind
  have pl := place_at (x := s.x) hr
  have ple := place_le r s.x
  have lo : ∀ k (hk : k < r.length), k < place r s.x → r[k].x < s.x := fun k hk h => (pl k hk).mpr h
  have up : ∀ k (hk : k < r.length), place r s.x ≤ k → s.x < r[k].x := fun k hk h => by
    have h1 : ¬ r[k].x < s.x := fun z => absurd ((pl k hk).mp z) (by omega)
    have h2 := hx r[k] (List.getElem_mem hk)
    grind
  have hs : ∀ k, hasSg h k (sgn (errS p s)) ↔ (h = 0 ∨ sg k * sn h = sn (errS p s)) := fun k => by rw [hasSg_iff, sgn_cast]
  -- one put in the place of another
  have one : ∀ i, i < r.length → (i + 1 = place r s.x ∨ i = place r s.x) → (h = 0 ∨ sg i * sn h = sn (errS p s)) → (r.set i s).length = r.length ∧ RiseS (r.set i s) ∧ (∀ q ∈ r.set i s, q = s ∨ q ∈ r) ∧ rabs h < rabs (firstE (r.set i s)) := fun i hi hij hsi => by
    have R := rise_set (s := s) hr hi (fun k hk hki => lo k hk (by omega)) (fun k hk hki => up k hk (by omega))
    refine ⟨List.length_set, R, fun q hq => ?_, set_gain hr hw hws h2 hi hp R he hb hsi⟩
    rcases List.mem_or_eq_of_mem_set hq with hq | hq
    · exact .inr hq
    · exact .inl hq
  -- the sign that h has not
  have other : ∀ k, ¬ (h = 0 ∨ sg k * sn h = sn (errS p s)) → h ≠ 0 ∧ sg k * sn h = - sn (errS p s) := fun k hk => by
    refine ⟨fun z => hk (.inl z), ?_⟩
    have h0 : h ≠ 0 := fun z => hk (.inl z)
    have n1 : sg k * sn h ≠ sn (errS p s) := fun z => hk (.inr z)
    have a := sn_sq h0
    have b := sn_sq en0
    have c := sg_sq k
    have : (sg k * sn h - sn (errS p s)) * (sg k * sn h + sn (errS p s)) = 0 := by grind
    rcases Rat.mul_eq_zero.mp this with z | z
    · exact absurd (by grind) n1
    · grind
  unfold withSpot
  generalize place r s.x = j at *
  by_cases c1 : 0 < j ∧ hasSg h (j - 1) (sgn (errS p s))
  · rw [if_pos c1]
    obtain ⟨i, rfl⟩ : ∃ i, j = i + 1 := ⟨j - 1, by omega⟩
    have e : i + 1 - 1 = i := by omega
    rw [e, set_split (by omega)]
    rw [e] at c1
    exact one i (by omega) (.inl rfl) ((hs i).mp c1.2)
  · rw [if_neg c1]
    by_cases c2 : j < r.length ∧ hasSg h j (sgn (errS p s))
    · rw [if_pos c2, set_split c2.1]
      exact one j c2.1 (.inr rfl) ((hs j).mp c2.2)
    · rw [if_neg c2]
      by_cases c3 : j = 0
      · rw [if_pos c3]
        subst c3
        have hn := other 0 fun z => c2 ⟨by omega, (hs 0).mpr z⟩
        have h0 := hn.1
        have e0 : sg 0 = 1 := rfl
        have hl : (s :: r.dropLast).length = r.length := by simp; omega
        have R : RiseS (s :: r.dropLast) := List.pairwise_cons.mpr ⟨fun q hq => by
          obtain ⟨k, hk, rfl⟩ := List.getElem_of_mem ((List.dropLast_sublist r).subset hq)
          exact up k hk (by omega), hr.sublist (List.dropLast_sublist r)⟩
        have hwp : WPos (s :: r.dropLast) := fun q hq => by
          rcases List.mem_cons.mp hq with rfl | hq
          · exact hws
          · exact hw q ((List.dropLast_sublist r).subset hq)
        refine ⟨hl, R, fun q hq => ?_, ?_⟩
        · rcases List.mem_cons.mp hq with hq | hq
          · exact .inl hq
          · exact .inr ((List.dropLast_sublist r).subset hq)
        · refine gain (p := p) (u := - sn h) (m := fun k => if k = 0 then rabs (errS p s) else rabs h) (riseS_iff.mpr R) hwp (by omega) (by omega) (by have := sn_sq h0; grind) (rabs_nonneg h) (fun k hk => ?_) (fun k hk => ?_) ⟨0, by omega, by simpa using hb⟩
          · rw [errN_at hk]
            cases k with
            | zero =>
              simp only [List.getElem_cons_zero, if_pos]
              have := sn_mul (errS p s)
              rw [e0] at hn ⊢
              grind
            | succ k =>
              simp only [List.getElem_cons_succ, List.getElem_dropLast]
              rw [he k (by omega), if_neg (by omega), sg_succ]
              have := sn_mul h
              grind
          · split
            · grind
            · exact Rat.le_refl
      · rw [if_neg c3]
        -- the place is behind all
        have hj : j = r.length := by
          apply Classical.byContradiction; intro hne
          have n1 := other (j - 1) fun z => c1 ⟨by omega, (hs (j - 1)).mpr z⟩
          have n2 := other j fun z => c2 ⟨by omega, (hs j).mpr z⟩
          obtain ⟨i, rfl⟩ : ∃ i, j = i + 1 := ⟨j - 1, by omega⟩
          rw [show i + 1 - 1 = i by omega] at n1
          rw [sg_succ] at n2
          have h1 := n1.2
          have h2 := n2.2
          have : sn (errS p s) = 0 := by grind
          have := sn_sq en0
          grind
        subst hj
        have n1 := other (r.length - 1) fun z => c1 ⟨by omega, (hs (r.length - 1)).mpr z⟩
        have h0 := n1.1
        have hl : (r.drop 1 ++ [s]).length = r.length := by simp; omega
        have R : RiseS (r.drop 1 ++ [s]) := List.pairwise_append.mpr ⟨hr.sublist (List.drop_sublist 1 r), List.pairwise_singleton _ _, fun a ha b hb => by
          rw [List.mem_singleton.mp hb]
          obtain ⟨k, hk, rfl⟩ := List.getElem_of_mem (List.mem_of_mem_drop ha)
          exact lo k hk hk⟩
        have hwp : WPos (r.drop 1 ++ [s]) := fun q hq => by
          rcases List.mem_append.mp hq with hq | hq
          · exact hw q (List.mem_of_mem_drop hq)
          · rw [List.mem_singleton.mp hq]; exact hws
        refine ⟨hl, R, fun q hq => ?_, ?_⟩
        · rcases List.mem_append.mp hq with hq | hq
          · exact .inr (List.mem_of_mem_drop hq)
          · exact .inl (List.mem_singleton.mp hq)
        · refine gain (p := p) (u := - sn h) (m := fun k => if k = r.length - 1 then rabs (errS p s) else rabs h) (riseS_iff.mpr R) hwp (by omega) (by omega) (by have := sn_sq h0; grind) (rabs_nonneg h) (fun k hk => ?_) (fun k hk => ?_) ⟨r.length - 1, by omega, by simpa using hb⟩
          · rw [errN_at hk, List.getElem_append]
            by_cases e : k = r.length - 1
            · subst e
              rw [dif_neg (by simp), if_pos rfl]
              simp only [List.getElem_singleton]
              have := sn_mul (errS p s)
              grind
            · rw [dif_pos (by simp; omega), if_neg e, List.getElem_drop]
              have := he (1 + k) (by omega)
              rw [this, show 1 + k = k + 1 by omega, sg_succ]
              have := sn_mul h
              grind
          · split
            · grind
            · exact Rat.le_refl
noncomputable def d_has_truth : S3 :=
    (sRet (eCall fAny (aCons (eLc (iLT (eVar 0)) (gN 1) tTrue (eCall fIsi (aCons (eVar 1) (aCons (eC (.val (.ty "bool"))) aNil))) [1]) aNil)))
noncomputable def fn_has_truth : Fn3 := run3 1 2 d_has_truth
noncomputable def d_is_spot : S3 :=
    (sSeq (sIf (tOr3 (tNot3 (tE (eCall fIsi (aCons (eVar 1) (aCons (eC (.val (.ty "tuple"))) aNil))))) (tE (eOp (fIn true) (eVar 1) (eVar 0)))) (sRet (eC (.bl false))) sNext)
    (sRet (eUn uNot (eCall fAny (aCons (eLc (iLT (eVar 1)) (gN 2) tTrue (eCall fn_has_truth (aCons (eVar 2) aNil)) [2]) aNil)))))
noncomputable def fn_is_spot : Fn3 := run3 2 3 d_is_spot
noncomputable def d_has_sign : S3 :=
    (sSeq (sSet 3 (eIf (tE (eOp fEq (eOp fMod (eVar 1) (eC (.int 2))) (eC (.int 0)))) (eCall fn_sign (aCons (eVar 0) aNil)) (eOp fSub (eC (.int 0)) (eCall fn_sign (aCons (eVar 0) aNil)))))
    (sRet (eOp (fInT false) (eVar 3) (eTup (aCons (eC (.int 0)) (aCons (eVar 2) aNil))))))
noncomputable def fn_has_sign : Fn3 := run3 3 4 d_has_sign
noncomputable def d_with_spot : S3 :=
    (sSeq (sSet 4 (eCall fLen (aCons (eLc (iLT (eVar 0)) (gN 5) (tE (eCall fn_is_below (aCons (eOp fIx (eVar 5) (eC (.int 0))) (aCons (eOp fIx (eVar 2) (eC (.int 0))) aNil)))) (eVar 5) [5]) aNil)))
    (sSeq (sIf (tAnd3 (tE (eOp fGt (eVar 4) (eC (.int 0)))) (tE (eCall fn_has_sign (aCons (eVar 1) (aCons (eOp fSub (eVar 4) (eC (.int 1))) (aCons (eVar 3) aNil)))))) (sRet (eOp fAdd (eOp fAdd (eSl (eVar 0) oNo (oSo (eOp fSub (eVar 4) (eC (.int 1))))) (eLst (aCons (eVar 2) aNil))) (eSl (eVar 0) (oSo (eVar 4)) oNo))) sNext)
    (sSeq (sIf (tAnd3 (tE (eOp fLt (eVar 4) (eCall fLen (aCons (eVar 0) aNil)))) (tE (eCall fn_has_sign (aCons (eVar 1) (aCons (eVar 4) (aCons (eVar 3) aNil)))))) (sRet (eOp fAdd (eOp fAdd (eSl (eVar 0) oNo (oSo (eVar 4))) (eLst (aCons (eVar 2) aNil))) (eSl (eVar 0) (oSo (eOp fAdd (eVar 4) (eC (.int 1)))) oNo))) sNext)
    (sSeq (sIf (tE (eOp fEq (eVar 4) (eC (.int 0)))) (sRet (eOp fAdd (eLst (aCons (eVar 2) aNil)) (eSl (eVar 0) oNo (oSo (eUn fNeg (eC (.int 1))))))) sNext)
    (sRet (eOp fAdd (eSl (eVar 0) (oSo (eC (.int 1))) oNo) (eLst (aCons (eVar 2) aNil))))))))
noncomputable def fn_with_spot : Fn3 := run3 4 6 d_with_spot
noncomputable def d_exchanged : S3 :=
    (sSeq (sIf (tNot3 (tE (eCall fn_is_spot (aCons (eVar 0) (aCons (eVar 2) aNil))))) (sRaise "NoGain") sNext)
    (sSeq (sAsg (eCall fn_level (aCons (eVar 1) aNil)) (gT 2 (gCons3 (gN 3) (gCons3 (gN 4) gNil3))))
    (sSeq (sSet 5 (eCall fn_error_at (aCons (eVar 2) (aCons (eVar 3) aNil))))
    (sSeq (sIf (tNot3 (tE (eCall fn_is_below (aCons (eCall fn_bare (aCons (eVar 4) aNil)) (aCons (eCall fn_bare (aCons (eVar 5) aNil)) aNil))))) (sRaise "NoGain") sNext)
    (sRet (eCall fn_with_spot (aCons (eVar 1) (aCons (eVar 4) (aCons (eVar 2) (aCons (eCall fn_sign (aCons (eVar 5) aNil)) aNil))))))))))
noncomputable def fn_exchanged : Fn3 := run3 3 6 d_exchanged
noncomputable def d_farthest : S3 :=
    (sSeq (sSet 2 (eLc (iLT (eCall fn_errors_of (aCons (eVar 0) (aCons (eVar 1) aNil)))) (gN 3) tTrue (eCall fn_bare (aCons (eVar 3) aNil)) [3]))
    (sSeq (sSet 4 (eC (.int 0)))
    (sSeq (sFor (iEnB (eVar 2)) (gT 2 (gCons3 (gN 5) (gCons3 (gN 3) gNil3))) (sIf (tE (eCall fn_is_below (aCons (eOp fIx (eVar 2) (eVar 4)) (aCons (eVar 3) aNil)))) (sSet 4 (eVar 5)) sNext))
    (sRet (eOp fIx (eVar 0) (eVar 4))))))
noncomputable def fn_farthest : Fn3 := run3 2 6 d_farthest
noncomputable def d_climbed : S3 :=
    (sSeq (sSet 2 (eLst (aCons (eCall fList (aCons (eVar 1) aNil)) aNil)))
    (sSeq (sAsg (eCall fn_level (aCons (eOp fIx (eVar 2) (eC (.int 0))) aNil)) (gT 2 (gCons3 (gN 3) (gCons3 (gN 4) gNil3))))
    (sSeq (sSet 5 (eCall fn_farthest (aCons (eVar 0) (aCons (eVar 3) aNil))))
    (sSeq (sWhile (tE (eCall fn_is_below (aCons (eCall fn_bare (aCons (eVar 4) aNil)) (aCons (eCall fn_bare (aCons (eCall fn_error_at (aCons (eVar 5) (aCons (eVar 3) aNil))) aNil)) aNil)))) (sSeq (sDrop (eMt "list" mAppend (eVar 2) (aCons (eCall fn_exchanged (aCons (eVar 0) (aCons (eOp fIx (eVar 2) (eUn fNeg (eC (.int 1)))) (aCons (eVar 5) aNil)))) aNil)))
    (sSeq (sAsg (eCall fn_level (aCons (eOp fIx (eVar 2) (eUn fNeg (eC (.int 1)))) aNil)) (gT 2 (gCons3 (gN 3) (gCons3 (gN 4) gNil3))))
    (sSet 5 (eCall fn_farthest (aCons (eVar 0) (aCons (eVar 3) aNil)))))))
    (sRet (eTup (aCons (eVar 3) (aCons (eCall fn_bare (aCons (eVar 4) aNil)) (aCons (eVar 2) aNil)))))))))
noncomputable def fn_climbed : Fn3 := run3 2 6 d_climbed
noncomputable def d_nearest : S3 :=
    (sSeq (sIf (tE (eOp fLt (eCall fLen (aCons (eVar 0) aNil)) (eOp fAdd (eVar 1) (eC (.int 2))))) (sRaise "Few") sNext)
    (sRet (eCall fn_climbed (aCons (eVar 0) (aCons (eSl (eVar 0) oNo (oSo (eOp fAdd (eVar 1) (eC (.int 2))))) aNil)))))
noncomputable def fn_nearest : Fn3 := run3 2 2 d_nearest
theorem kitIB : kitB "int" "bool" = some false := by decide +kernel
theorem kitTT : kitB "tuple" "tuple" = some true := by decide +kernel
theorem fn_has_truth_eq (L : Lh) (q : Rat) : fn_has_truth [fr q] L = .val (.bl false) L := by
  apply wpR.eq
  unfold fn_has_truth d_has_truth
  refine wp_run rfl ?_
  have e : fr q = .tup [.int q.num, .int q.den] := rfl
  simp [e]
  refine wp_lcMap (fun _ => .bl false) (by simp) (fun _ => trivial) (fun k hk acc => ?_) ?_
  · have hk' : k = 0 ∨ k = 1 := by simp at hk; omega
    rcases hk' with rfl | rfl <;> simp [kitIB, tyName]
  · have al := fAny_map (l := List.range 2) (fun _ => false) (n := L.length) (L := L ++ [.lst ((List.range 2).map fun _ => .bl false)]) (by simp)
    have e2 : ([D.int q.num, D.int q.den] : List D).length = 2 := rfl
    rw [e2]
    simp [al, -fAny]
theorem fn_is_spot_eq {L : Lh} {n : Nat} {t : List Spo} {s : Spo} (ht : L[n]? = some (.lst (t.map spD))) (hs : s ∈ t) : fn_is_spot [.loc n, spD s] L = .val (.bl true) L := by
  have inn := (encS.inL (a := s) ht).2
  rw [decide_eq_true hs] at inn
  have e : spD s = .tup [fr s.x, fr s.y, fr s.w] := rfl
  apply wpR.eq
  unfold fn_is_spot d_is_spot
  refine wp_run rfl ?_
  have inn' : fIn true (spD s) (.loc n) L = .val (.bl false) L := inn
  have ty : tyName (spD s) L = some "tuple" := rfl
  simp [ty, kitTT, inn']
  have it : ∀ X, itemsT (spD s) X = some [fr s.x, fr s.y, fr s.w] := fun X => rfl
  have lt : ∀ X, ltR (spD s) X = .val ⟨[fr s.x, fr s.y, fr s.w], fun _ => True⟩ X := fun X => rfl
  simp [lt]
  refine wp_lcMap (fun _ => .bl false) (by simp) (fun _ => trivial) (fun k hk acc => ?_) ?_
  · have hk' : k = 0 ∨ k = 1 ∨ k = 2 := by simp at hk; omega
    rcases hk' with rfl | rfl | rfl <;> simp [fn_has_truth_eq]
  · have al := fAny_map (l := List.range 3) (fun _ => false) (n := L.length) (L := L ++ [.lst ((List.range 3).map fun _ => .bl false)]) (by simp)
    have e2 : ([fr s.x, fr s.y, fr s.w] : List D).length = 3 := rfl
    rw [e2]
    simp [al, -fAny]
theorem fn_has_sign_eq (L : Lh) (h : Rat) (k : Nat) (way : Int) : fn_has_sign [fr h, .int k, .int way] L = .val (.bl (decide (hasSg h k way))) L := by
  apply wpR.eq
  unfold fn_has_sign d_has_sign
  refine wp_run rfl ?_
  have fin : ∀ v : Int, fInT false (.int v) (.tup [.int 0, .int way]) L = .val (.bl (decide (v = 0 ∨ v = way))) L := fun v => by
    have := fInT_int false v [0, way] L
    simpa using this
  simp [fmod2, fn_sign_eq]
  by_cases hk : (k : Int) % 2 = 0
  · have hk2 : k % 2 = 0 := by omega
    simp [hk, fn_sign_eq, fin, hasSg, hk2]
  · have hk2 : ¬ k % 2 = 0 := by omega
    simp [hk, fn_sign_eq, fin, hasSg, hk2]
theorem fn_error_at_eq {N M : Nat} {s : Spo} {q : List Rat} (L : Lh) (h : Sz N s.x ∧ Sz N s.y ∧ Sz N s.w) (hq : SzP M q) (hs : (q.length + 4) * (M + 2 * N + 6) + 10 ≤ LIM) : fn_error_at [spD s, pol q] L = .val (fr (errS q s)) L := by
  obtain ⟨a1, a2, a3⟩ := h
  have m1 : (q.length + 1) * (M + N + 2) ≤ (q.length + 4) * (M + 2 * N + 6) := Nat.mul_le_mul (by omega) (by omega)
  have m2 : q.length * (M + N + 2) + (2 * N + 6) ≤ (q.length + 4) * (M + 2 * N + 6) := by
    have := Nat.mul_le_mul (show q.length ≤ q.length by omega) (show M + N + 2 ≤ M + 2 * N + 6 by omega)
    rw [Nat.add_mul]; omega
  have se := ev_sz hq a1 (Nat.le_refl q.length)
  have z1 := fn_worth_eq L hq a1 (by omega)
  have z2 := fn_less_eq L (Fit.of a2 (by omega)) (Fit.of se (by omega))
  have z3 := fn_times_eq L (Fit.of a3 (by omega)) (Fit.of (a2.sub se) (by omega))
  apply wpR.eq
  unfold fn_error_at d_error_at
  refine wp_run rfl ?_
  simp [z1, z2, z3, errS]
theorem errS_sz {N M : Nat} {s : Spo} {q : List Rat} (h : Sz N s.x ∧ Sz N s.y ∧ Sz N s.w) (hq : SzP M q) : Sz (q.length * (M + N + 2) + 2 * N + 3) (errS q s) := by
  obtain ⟨a1, a2, a3⟩ := h
  have := a3.mul (a2.sub (ev_sz hq a1 (Nat.le_refl q.length)))
  exact this.mono (by omega)
theorem errS_fit {N M : Nat} {s : Spo} {q : List Rat} (h : Sz N s.x ∧ Sz N s.y ∧ Sz N s.w) (hq : SzP M q) (hs : (q.length + 4) * (M + 2 * N + 6) + 10 ≤ LIM) : Fit (errS q s) := by
  have m2 : q.length * (M + N + 2) + (2 * N + 6) ≤ (q.length + 4) * (M + 2 * N + 6) := by
    have := Nat.mul_le_mul (show q.length ≤ q.length by omega) (show M + N + 2 ≤ M + 2 * N + 6 by omega)
    rw [Nat.add_mul]; omega
  exact Fit.of (errS_sz h hq) (by omega)
theorem fit_abs {q : Rat} (h : Fit q) : Fit (rabs q) := Sz.abs h
def nthS (t : List Spo) (k : Nat) : Spo := t.getD k ⟨0, 0, 0⟩
theorem nthS_lt {t : List Spo} {k : Nat} (hk : k < t.length) : nthS t k = t[k] := by unfold nthS; simp [hk]
theorem fn_errors_of_eq {L : Lh} {N M n : Nat} {t : List Spo} {q : List Rat} (ht : L[n]? = some (.lst (t.map spD))) (h : SzT N t) (hq : SzP M q) (hl : t.length ≤ 1000) (hs : (q.length + 4) * (M + 2 * N + 6) + 10 ≤ LIM) : fn_errors_of [.loc n, pol q] L = .val (.loc L.length) (L ++ [.lst ((t.map (errS q)).map fr)]) := by
  have key : wpR (fn_errors_of [.loc n, pol q] L) (fun d L' => d = .loc L.length ∧ L' = L ++ [.lst ((t.map (errS q)).map fr)]) noE := by
    unfold fn_errors_of d_errors_of
    refine wp_run rfl ?_
    simp [ltR_loc ht]
    refine wp_lcMap (fun k => fr (errS q (nthS t k))) (by simp; omega) (fun _ => get_app ht) (fun k hk acc => ?_) ?_
    · have hk' : k < t.length := by simpa using hk
      have z := fun X => fn_error_at_eq X (h _ (List.getElem_mem hk')) hq hs
      have e : nthS t k = t[k] := nthS_lt hk'
      simp only [e, List.getElem_map]
      simp [z]
    · have e : (t.map spD).length = t.length := by simp
      have e2 : (List.range t.length).map (fun k => fr (errS q (nthS t k))) = (t.map (errS q)).map fr := by
        refine List.ext_getElem (by simp) fun k h1 h2 => ?_
        have hk : k < t.length := by simpa using h1
        simp [nthS_lt hk]
      rw [e, e2]
      simp [-List.map_map]
      exact wp_truncPL Pre.new (Nat.le_refl _) get_last (closeds_frs _ _) ⟨rfl, by simp⟩
  obtain ⟨d, L', e, rfl, rfl⟩ := key.ex
  exact e
/-- the place of the first greatest -/
def farIx (f : Nat → Rat) : Nat → Nat
  | 0 => 0
  | k + 1 => if f (farIx f k) < f k then k else farIx f k
theorem farIx_lt (f : Nat → Rat) : ∀ n, 0 < n → farIx f n < n
  | n + 1, _ => by
    rw [farIx]; split
    · omega
    · rcases Nat.eq_zero_or_pos n with rfl | h
      · simp [farIx]
      · have := farIx_lt f n h; omega
theorem farIx_ge (f : Nat → Rat) : ∀ n k, k < n → f k ≤ f (farIx f n)
  | n + 1, k, hk => by
    rw [farIx]
    by_cases e : k = n
    · subst e; split <;> grind
    · have := farIx_ge f n k (by omega)
      split <;> grind
theorem fn_farthest_eq {L : Lh} {N M n : Nat} {t : List Spo} {q : List Rat} (ht : L[n]? = some (.lst (t.map spD))) (h : SzT N t) (hq : SzP M q) (hl : t.length ≤ 1000) (h0 : 0 < t.length) (hs : (q.length + 4) * (M + 2 * N + 6) + 10 ≤ LIM) :
    ∃ s ∈ t, fn_farthest [.loc n, pol q] L = .val (spD s) L ∧ ∀ r ∈ t, rabs (errS q r) ≤ rabs (errS q s) := by
  have lt := farIx_lt (fun k => rabs (errS q (nthS t k))) t.length h0
  refine ⟨t[farIx (fun k => rabs (errS q (nthS t k))) t.length], List.getElem_mem _, ?_, fun r hr => ?_⟩
  · have er := fn_errors_of_eq ht h hq hl hs
    have fit : ∀ k, k < t.length → Fit (rabs (errS q (nthS t k))) := fun k hk => by
      have e : nthS t k = t[k] := nthS_lt hk
      rw [e]; exact fit_abs (errS_fit (h _ (List.getElem_mem hk)) hq hs)
    apply wpR.eq
    unfold fn_farthest d_farthest
    refine wp_run rfl ?_
    simp only [wp_sSeq, wp_sSet]
    simp
    simp only [er]
    have hE := get_last (L := L) (c := .lst ((t.map (errS q)).map fr))
    have pre1 : Pre L (L ++ [Cell.lst ((t.map (errS q)).map fr)]) := Pre.new
    generalize hL1 : L ++ [Cell.lst ((t.map (errS q)).map fr)] = L1 at *
    simp [ltR_loc hE, -List.map_map]
    refine wp_lcMap (fun k => fr (rabs (errS q (nthS t k)))) (by simp; omega) (fun _ => get_app hE) (fun k hk acc => ?_) ?_
    · have hk' : k < t.length := by simpa using hk
      have e : nthS t k = t[k] := nthS_lt hk'
      simp [e, fn_bare_eq]
    · have e : ((t.map (errS q)).map fr).length = t.length := by simp
      rw [e, range_map_fr]
      have fl : ((List.range t.length).map fun k => rabs (errS q (nthS t k))).length = t.length := by simp
      have fa : ∀ k, k < t.length → at0 ((List.range t.length).map fun k => rabs (errS q (nthS t k))) k = rabs (errS q (nthS t k)) := fun k hk => at0_map hk
      generalize (List.range t.length).map (fun k => rabs (errS q (nthS t k))) = fs at *
      have hF := get_last (L := L1) (c := .lst (fs.map fr))
      have ht2 := get_app (X := [.lst (fs.map fr)]) (pre1.get ht)
      have pre2 := pre1.app (X := [.lst (fs.map fr)])
      generalize hL2 : L1 ++ [Cell.lst (fs.map fr)] = L2 at *
      simp [enR_loc hF]
      refine wp_for (fun k Γ L' => L' = L2 ∧ ∃ v3 v5, Γ = [some (.loc n), some (pol q), some (.loc L1.length), v3, some (.int (farIx (fun k => rabs (errS q (nthS t k))) k : Nat)), v5]) ⟨rfl, _, _, rfl⟩ (fun _ _ _ _ h => by rw [h.1]; exact hF) (fun k hk Γ L' J hJ hI => ?_) (fun Γ L' hI => ?_)
      · obtain ⟨rfl, v3, v5, rfl⟩ := hI
        have hk' : k < t.length := by simp at hk; omega
        have kf : k < fs.length := by omega
        simp only [enumD_get, List.getElem_map, ← at0_lt kf, fa k hk']
        have fx : farIx (fun k => rabs (errS q (nthS t k))) k < t.length := by
          rcases Nat.eq_zero_or_pos k with rfl | hp
          · simpa [farIx] using h0
          · have := farIx_lt (fun k => rabs (errS q (nthS t k))) k hp; omega
        have st : farIx (fun k => rabs (errS q (nthS t k))) (k + 1) = if rabs (errS q (nthS t (farIx (fun k => rabs (errS q (nthS t k))) k))) < rabs (errS q (nthS t k)) then k else farIx (fun k => rabs (errS q (nthS t k))) k := rfl
        generalize farIx (fun k => rabs (errS q (nthS t k))) k = j at *
        have x0 : fIx (.loc L1.length) (.int j) L' = .val (fr (rabs (errS q (nthS t j)))) L' := fIx_listS (by rw [itemsT_loc]; exact items_loc hF) (by
          rw [atI_some (by simp; omega), List.getElem_map, ← at0_lt (show j < fs.length by omega), fa j fx])
        have z := fn_is_below_eq L' (fit j fx) (fit k hk')
        simp [x0, z]
        refine wp_if (fun c => ?_) (fun c => ?_)
        · simp
          exact hJ _ _ ⟨rfl, _, _, by rw [st, if_pos c]⟩
        · simp
          exact hJ _ _ ⟨rfl, _, _, by rw [st, if_neg c]⟩
      · obtain ⟨rfl, v3, v5, rfl⟩ := hI
        have ee : (enumD (fs.map fr)).length = t.length := by simp; omega
        rw [ee]
        have x0 : fIx (.loc n) (.int (farIx (fun k => rabs (errS q (nthS t k))) t.length : Nat)) L' = .val (spD t[farIx (fun k => rabs (errS q (nthS t k))) t.length]) L' := fIx_listS (by rw [itemsT_loc]; exact items_loc ht2) (by
          rw [atI_some (by simpa using lt), List.getElem_map])
        simp [x0]
        exact wp_truncP pre2 (by simp) ⟨rfl, rfl⟩
  · obtain ⟨k, hk, rfl⟩ := List.getElem_of_mem hr
    have := farIx_ge (fun k => rabs (errS q (nthS t k))) t.length k hk
    rwa [nthS_lt hk, nthS_lt lt] at this
theorem nopyH {a j : Int} (h : j.natAbs < 2 ^ 200) : Builtin.divisionGoesByPylong a j = false := PyProof.noPylong_of_log2 (by
  by_cases h0 : j.natAbs = 0
  · rw [h0]; decide +kernel
  · have := (Nat.log2_lt h0).mpr h
    omega)
theorem wp_drawH {A B M M2 V m : Int} {n : Nat} {L : Lh} {Q : D → Lh → Prop} {E : Str → Lh → Prop} (hA : 0 ≤ A ∧ A < 1000000) (hB : 0 ≤ B) (hM : 0 < M ∧ M ≤ 2147483647) (hM2 : 0 < M2) (hV : 0 < V) (hp : PotAt L n) (h0 : 0 < m) (hm : m < 2 ^ 200)
    (h : ∀ d L', 0 ≤ d → d < m → Grow n L L' → PotAt L' n → Q (.int d) L') : wpR (run3 2 3 (dDraw A B M M2 V) [.loc n, .int m] L) Q E := by
  obtain ⟨p, q, hL, p0, q0, q1⟩ := id hp
  have hn : n < L.length := lt_of_get hL
  have hi := items_loc hL
  have hset : ∀ (c : Cell), (L.set n c)[n]? = some c := fun c => List.getElem?_set_self hn
  refine wp_run rfl ?_
  unfold dDraw
  simp [hi, fIx]
  refine wp_if (fun hpos => ?_) (fun hpos => ?_)
  · have np : Builtin.divisionGoesByPylong p m = false := nopyH (by omega)
    simp [hi, hpos, h0, np, fIx, setR_eq hL (show ixN 2 0 = some 0 by simp [ixN])]
    refine wp_truncG rfl (But.grow But.set) ⟨p / m, q, hset _, Int.ediv_nonneg p0 (by omega), q0, q1⟩ hn fun L'' g pp => ?_
    exact h _ _ (Int.emod_nonneg _ (by omega)) (Int.emod_lt_of_pos _ h0) g pp
  · have c1 : CMulX q A := cmulS (by omega) (by omega)
    have hq2 := Int.emod_nonneg (q * A + B) (show M ≠ 0 by omega)
    have hq3 := Int.emod_lt_of_pos (q * A + B) hM.1
    have f1 : (q * A + B).fmod M = (q * A + B) % M := Int.fmod_eq_emod_of_nonneg _ (by omega)
    generalize hqv : (q * A + B) % M = q' at *
    have c2 : CMulX q' q' := cmulS (by omega) (by omega)
    have hi2 := items_loc (hset (.lst [.int p, .int q']))
    have n1 : M ≠ 0 := by omega
    have n2 : M2 ≠ 0 := by omega
    have n3 : V ≠ 0 := by omega
    have n4 : m ≠ 0 := by omega
    simp [hi, fIx, c1, f1, n1, n2, n3, n4, setR_eq hL (show ixN 2 1 = some 1 by simp [ixN]), hi2, c2]
    refine wp_truncG rfl (But.grow But.set) ⟨p, q', hset _, p0, hq2, by omega⟩ hn fun L'' g pp => ?_
    refine h _ _ ?_ ?_ g pp
    · rw [Int.fmod_eq_emod_of_nonneg _ (by omega)]; exact Int.emod_nonneg _ n4
    · rw [Int.fmod_eq_emod_of_nonneg _ (by omega)]; exact Int.emod_lt_of_pos _ h0
theorem law_drawH {m : Int} {n : Nat} {L : Lh} {Q : D → Lh → Prop} {E : Str → Lh → Prop} (hp : PotAt L n) (h0 : 0 < m) (hm : m < 2 ^ 200)
    (h : ∀ d L', 0 ≤ d → d < m → Grow n L L' → PotAt L' n → Q (.int d) L') : wpR (fn_law_draw [.loc n, .int m] L) Q E :=
  wp_drawH (A := 48271) (B := 39373) (M := 2147483647) (M2 := 2147483629) (V := 3) (by decide) (by decide) (by decide) (by decide) (by decide) hp h0 hm h
theorem fMul_lst {L : Lh} {n k : Nat} {xs : List D} (h : L[n]? = some (.lst xs)) (hk : k ≤ 1000) (hl : xs.length * k ≤ 100000) : fMul (.loc n) (.int (k : Nat)) L = .val (.loc L.length) (L ++ [.lst (List.replicate k xs).flatten]) := by
  unfold fMul
  simp only [h]
  rw [if_pos ⟨by omega, by omega, by simpa using hl⟩]
  simp
theorem fAdd_lst {L : Lh} {n m : Nat} {xs ys : List D} (h : L[n]? = some (.lst xs)) (h2 : L[m]? = some (.lst ys)) (hl : xs.length + ys.length ≤ 100000) : fAdd (.loc n) (.loc m) L = .val (.loc L.length) (L ++ [.lst (xs ++ ys)]) := by
  unfold fAdd
  simp only [h, h2]
  rw [if_pos hl]
theorem flat_rep (d : Nat) : (List.replicate d [fr 0]).flatten = (List.replicate d (0 : Rat)).map fr := by
  induction d with
  | zero => rfl
  | succ d ih => rw [List.replicate_succ, List.replicate_succ, List.flatten_cons, ih]; rfl
theorem flat_repG (d : Nat) (q : Rat) : (List.replicate d [fr q]).flatten = (List.replicate d q).map fr := by
  induction d with
  | zero => rfl
  | succ d ih => rw [List.replicate_succ, List.replicate_succ, List.flatten_cons, ih]; rfl
theorem cut_one {x : D} {r : List D} : cutD (x :: r) none (some 1) = [x] := by
  have e1 : HT.sIx (r.length + 1) 0 none = 0 := rfl
  have e2 : HT.sIx (r.length + 1) (r.length + 1) (some 1) = 1 := by
    simp [HT.sIx]
  unfold cutD
  rw [List.length_cons, e1, e2]; rfl
theorem Pre.grow {n : Nat} {L L' : Lh} (h : Pre L L') : Grow n L L' := ⟨h.le, fun j hj _ => by
  have := h.get (List.getElem?_eq_getElem hj); rw [this, List.getElem?_eq_getElem hj]⟩
theorem Pre.pot {n : Nat} {L L' : Lh} (h : Pre L L') (p : PotAt L n) : PotAt L' n := by
  obtain ⟨a, c, h1, h2⟩ := p
  exact ⟨a, c, h.get h1, h2⟩
theorem cut_to {xs : List D} {k : Nat} : cutD xs none (some (k : Int)) = xs.take k := by
  unfold cutD
  rw [HT.sIx_none, HT.sIx_nat, List.drop_zero, Nat.sub_zero]
  rcases Nat.le_total k xs.length with h | h
  · rw [Nat.min_eq_left h]
  · rw [Nat.min_eq_right h, List.take_of_length_le (Nat.le_refl _), List.take_of_length_le h]
theorem cut_m1 {xs : List D} (h : 0 < xs.length) : cutD xs none (some (-1)) = xs.dropLast := by
  have e : HT.sIx xs.length xs.length (some (-1)) = xs.length - 1 := by
    show (if (-1 : Int) < 0 then ((-1 : Int) + (xs.length : Int)).toNat else min (-1 : Int).toNat xs.length) = xs.length - 1
    rw [if_pos (show (-1 : Int) < 0 by decide)]; omega
  unfold cutD
  rw [HT.sIx_none, e, List.drop_zero, Nat.sub_zero, List.dropLast_eq_take]
theorem closeds_sps (n : Nat) (t : List Spo) : closeds n (t.map spD) = true := encS.clos n t
theorem fn_with_spot_eq {L : Lh} {N n : Nat} {r : List Spo} {s : Spo} {h : Rat} {way : Int} (hr : L[n]? = some (.lst (r.map spD))) (hl : r.length ≤ 100) (h0 : 0 < r.length) (hs : SzT N r) (hsx : Sz N s.x) (hN : N ≤ LIM) : fn_with_spot [.loc n, fr h, spD s, .int way] L = .val (.loc L.length) (L ++ [.lst ((withSpot r h s way).map spD)]) := by
  have key : wpR (fn_with_spot [.loc n, fr h, spD s, .int way] L) (fun d L' => d = .loc L.length ∧ L' = L ++ [.lst ((withSpot r h s way).map spD)]) noE := by
    unfold fn_with_spot d_with_spot
    refine wp_run rfl ?_
    simp [ltR_loc hr]
    have fl := lcL_filter (chk := fun L' => L'[n]? = some (.lst (r.map spD))) (g := gN 5) (t := tE (eCall fn_is_below (aCons (eOp fIx (eVar 5) (eC (.int 0))) (aCons (eOp fIx (eVar 2) (eC (.int 0))) aNil)))) (e := eVar 5) (Γ0 := [some (.loc n), some (fr h), some (spD s), some (.int way), none, none]) (L := L) (f := id) (p := fun d => decide (∃ q : Spo, d = spD q ∧ q.x < s.x))
      (fun d => [some (.loc n), some (fr h), some (spD s), some (.int way), none, some d]) (r.map spD) (by simp; omega) (fun acc => get_app hr) (fun x acc hx => rfl) (fun x acc hx => ?_) (fun x acc hx hp => rfl) [] (by simp; omega)
    · have ef : ((r.map spD).filter fun d => decide (∃ q : Spo, d = spD q ∧ q.x < s.x)) = (r.filter fun q => decide (q.x < s.x)).map spD := by
        rw [List.filter_map]
        congr 1
        refine List.filter_congr fun q hq => ?_
        have e : (∃ q1 : Spo, spD q = spD q1 ∧ q1.x < s.x) = (q.x < s.x) := propext ⟨fun ⟨q1, e, h⟩ => by rw [encS.inj e]; exact h, fun h => ⟨q, rfl, h⟩⟩
        simp only [Function.comp, e]
      rw [fl, ef]
      simp only [List.nil_append, List.map_id_fun, id]
      have hl1 := get_last (L := L) (c := .lst ((r.filter fun q => decide (q.x < s.x)).map spD))
      have pre1 : Pre L (L ++ [Cell.lst ((r.filter fun q => decide (q.x < s.x)).map spD)]) := Pre.new
      have len : ((r.filter fun q => decide (q.x < s.x)).map spD).length = place r s.x := by rw [List.length_map]; rfl
      generalize (r.filter fun q => decide (q.x < s.x)).map spD = fl1 at *
      have hr1 := get_app (X := [.lst fl1]) hr
      generalize hL1 : L ++ [Cell.lst fl1] = L1 at *
      have i1 := items_loc hl1
      simp [i1, len]
      have ir := items_loc hr1
      obtain ⟨w, wd⟩ : ∃ w, w = withSpot r h s way := ⟨_, rfl⟩
      rw [← wd]
      rw [withSpot] at wd
      have jl := place_le r s.x
      generalize place r s.x = j at *
      by_cases c1 : 0 < j ∧ hasSg h (j - 1) way
      · have ww := wd
        rw [if_pos c1] at ww
        obtain ⟨i, rfl⟩ : ∃ i, j = i + 1 := ⟨j - 1, by omega⟩
        have e1 : ((i + 1 : Nat) : Int) - 1 = (i : Int) := by omega
        rw [show i + 1 - 1 = i by omega] at c1 ww
        have sg1 := fn_has_sign_eq L1 h i way
        rw [decide_eq_true c1.2] at sg1
        have ei : ((i : Int) + 1 - 1) = (i : Int) := by omega
        have ek : ((i + 1 : Nat) : Int) = (i : Int) + 1 := by omega
        simp [sg1, ei]
        have sA := sliceD_loc (a := none) (b := some ((i : Nat) : Int)) hr1
        rw [cut_to] at sA
        simp [sA, ei, -List.map_take]
        have hA3 : (L1 ++ [Cell.lst ((r.map spD).take i), Cell.lst [spD s]])[L1.length]? = some (.lst ((r.map spD).take i)) := by simp
        have hB3 : (L1 ++ [Cell.lst ((r.map spD).take i), Cell.lst [spD s]])[L1.length + 1]? = some (.lst [spD s]) := by simp
        have hr3 := get_app (X := [Cell.lst ((r.map spD).take i), Cell.lst [spD s]]) hr1
        have pre3 := pre1.app (X := [Cell.lst ((r.map spD).take i), Cell.lst [spD s]])
        generalize hL3 : L1 ++ [Cell.lst ((r.map spD).take i), Cell.lst [spD s]] = L3 at *
        rw [fAdd_lst hA3 hB3 (by simp; omega)]
        have hC4 := get_last (L := L3) (c := .lst ((r.map spD).take i ++ [spD s]))
        have hr4 := get_app (X := [.lst ((r.map spD).take i ++ [spD s])]) hr3
        have pre4 := pre3.app (X := [.lst ((r.map spD).take i ++ [spD s])])
        generalize hL4 : L3 ++ [Cell.lst ((r.map spD).take i ++ [spD s])] = L4 at *
        have sB := sliceD_from (i + 1) hr4
        rw [ek] at sB
        simp [sB, -List.map_drop]
        have hC5 := get_app (X := [.lst ((r.map spD).drop (i + 1))]) hC4
        have hD5 := get_last (L := L4) (c := .lst ((r.map spD).drop (i + 1)))
        have pre5 := pre4.app (X := [.lst ((r.map spD).drop (i + 1))])
        generalize hL5 : L4 ++ [Cell.lst ((r.map spD).drop (i + 1))] = L5 at *
        rw [fAdd_lst hC5 hD5 (by simp; omega)]
        have ew : (r.map spD).take i ++ [spD s] ++ (r.map spD).drop (i + 1) = w.map spD := by rw [ww]; simp
        have hw := get_last (L := L5) (c := .lst ((r.map spD).take i ++ [spD s] ++ (r.map spD).drop (i + 1)))
        rw [ew] at hw ⊢
        exact wp_truncPL pre5.app pre5.le hw (closeds_sps _ _) ⟨rfl, rfl⟩
      · rw [if_neg c1] at wd
        -- the first test fails
        have t1 : 0 < j → ∃ i, j = i + 1 ∧ ¬ hasSg h i way := fun hj => ⟨j - 1, by omega, fun z => c1 ⟨hj, z⟩⟩
        by_cases c2 : j < r.length ∧ hasSg h j way
        · have ww := wd
          rw [if_pos c2] at ww
          have sg2 := fn_has_sign_eq L1 h j way
          rw [decide_eq_true c2.2] at sg2
          have ek : ((j + 1 : Nat) : Int) = (j : Int) + 1 := by omega
          have go : ∀ P : Prop, P → P := fun _ h => h
          by_cases j0 : 0 < j
          · obtain ⟨i, rfl, ns⟩ := t1 j0
            have sg1 := fn_has_sign_eq L1 h i way
            rw [decide_eq_false ns] at sg1
            have ei : ((i : Int) + 1 - 1) = (i : Int) := by omega
            have e1 : ((i + 1 : Nat) : Int) = (i : Int) + 1 := by omega
            rw [e1] at sg2
            have lt2 : (i : Int) + 1 < r.length := by omega
            simp [sg1, ei, ir, sg2, c2.1, lt2]
            have sA := sliceD_loc (a := none) (b := some ((i + 1 : Nat) : Int)) hr1
            rw [cut_to, e1] at sA
            simp [sA, -List.map_take]
            have hA3 : (L1 ++ [Cell.lst ((r.map spD).take (i + 1)), Cell.lst [spD s]])[L1.length]? = some (.lst ((r.map spD).take (i + 1))) := by simp
            have hB3 : (L1 ++ [Cell.lst ((r.map spD).take (i + 1)), Cell.lst [spD s]])[L1.length + 1]? = some (.lst [spD s]) := by simp
            have hr3 := get_app (X := [Cell.lst ((r.map spD).take (i + 1)), Cell.lst [spD s]]) hr1
            have pre3 := pre1.app (X := [Cell.lst ((r.map spD).take (i + 1)), Cell.lst [spD s]])
            generalize hL3 : L1 ++ [Cell.lst ((r.map spD).take (i + 1)), Cell.lst [spD s]] = L3 at *
            rw [fAdd_lst hA3 hB3 (by simp; omega)]
            have hC4 := get_last (L := L3) (c := .lst ((r.map spD).take (i + 1) ++ [spD s]))
            have hr4 := get_app (X := [.lst ((r.map spD).take (i + 1) ++ [spD s])]) hr3
            have pre4 := pre3.app (X := [.lst ((r.map spD).take (i + 1) ++ [spD s])])
            generalize hL4 : L3 ++ [Cell.lst ((r.map spD).take (i + 1) ++ [spD s])] = L4 at *
            have sB := sliceD_from (i + 1 + 1) hr4
            rw [show ((i + 1 + 1 : Nat) : Int) = (i : Int) + 1 + 1 by omega] at sB
            simp [sB, -List.map_drop]
            have hC5 := get_app (X := [.lst ((r.map spD).drop (i + 1 + 1))]) hC4
            have hD5 := get_last (L := L4) (c := .lst ((r.map spD).drop (i + 1 + 1)))
            have pre5 := pre4.app (X := [.lst ((r.map spD).drop (i + 1 + 1))])
            generalize hL5 : L4 ++ [Cell.lst ((r.map spD).drop (i + 1 + 1))] = L5 at *
            rw [fAdd_lst hC5 hD5 (by simp; omega)]
            have ew : (r.map spD).take (i + 1) ++ [spD s] ++ (r.map spD).drop (i + 1 + 1) = w.map spD := by rw [ww]; simp
            have hw := get_last (L := L5) (c := .lst ((r.map spD).take (i + 1) ++ [spD s] ++ (r.map spD).drop (i + 1 + 1)))
            rw [ew] at hw ⊢
            exact wp_truncPL pre5.app pre5.le hw (closeds_sps _ _) ⟨rfl, rfl⟩
          · have j00 : j = 0 := by omega
            subst j00
            have sg20 : fn_has_sign [fr h, .int 0, .int way] L1 = .val (.bl true) L1 := sg2
            simp [ir, sg20, c2.1]
            have sA := sliceD_loc (a := none) (b := some ((0 : Nat) : Int)) hr1
            rw [cut_to, show ((0 : Nat) : Int) = 0 from rfl] at sA
            simp [sA, -List.map_take, -List.take_zero]
            have hA3 : (L1 ++ [Cell.lst ((r.map spD).take (0)), Cell.lst [spD s]])[L1.length]? = some (.lst ((r.map spD).take (0))) := by simp
            have hB3 : (L1 ++ [Cell.lst ((r.map spD).take (0)), Cell.lst [spD s]])[L1.length + 1]? = some (.lst [spD s]) := by simp
            have hr3 := get_app (X := [Cell.lst ((r.map spD).take (0)), Cell.lst [spD s]]) hr1
            have pre3 := pre1.app (X := [Cell.lst ((r.map spD).take (0)), Cell.lst [spD s]])
            generalize hL3 : L1 ++ [Cell.lst ((r.map spD).take (0)), Cell.lst [spD s]] = L3 at *
            rw [fAdd_lst hA3 hB3 (by simp)]
            have hC4 := get_last (L := L3) (c := .lst ((r.map spD).take (0) ++ [spD s]))
            have hr4 := get_app (X := [.lst ((r.map spD).take (0) ++ [spD s])]) hr3
            have pre4 := pre3.app (X := [.lst ((r.map spD).take (0) ++ [spD s])])
            generalize hL4 : L3 ++ [Cell.lst ((r.map spD).take (0) ++ [spD s])] = L4 at *
            have sB := sliceD_from (0 + 1) hr4
            rw [show ((0 + 1 : Nat) : Int) = 1 from rfl] at sB
            simp [sB, -List.map_drop, -List.drop_one]
            have hC5 := get_app (X := [.lst ((r.map spD).drop (0 + 1))]) hC4
            have hD5 := get_last (L := L4) (c := .lst ((r.map spD).drop (0 + 1)))
            have pre5 := pre4.app (X := [.lst ((r.map spD).drop (0 + 1))])
            generalize hL5 : L4 ++ [Cell.lst ((r.map spD).drop (0 + 1))] = L5 at *
            rw [fAdd_lst hC5 hD5 (by simp; omega)]
            have ew : (r.map spD).take (0) ++ [spD s] ++ (r.map spD).drop (0 + 1) = w.map spD := by rw [ww]; simp
            have hw := get_last (L := L5) (c := .lst ((r.map spD).take (0) ++ [spD s] ++ (r.map spD).drop (0 + 1)))
            rw [ew] at hw ⊢
            exact wp_truncPL pre5.app pre5.le hw (closeds_sps _ _) ⟨rfl, rfl⟩
        · rw [if_neg c2] at wd
          by_cases c3 : j = 0
          · have ww := wd
            rw [if_pos c3] at ww
            subst c3
            have ns : ¬ hasSg h 0 way := fun z => c2 ⟨h0, z⟩
            have sg2 := fn_has_sign_eq L1 h 0 way
            rw [decide_eq_false ns] at sg2
            have sg20 : fn_has_sign [fr h, .int 0, .int way] L1 = .val (.bl false) L1 := sg2
            have hA2 := get_last (L := L1) (c := .lst [spD s])
            have hr2 := get_app (X := [.lst [spD s]]) hr1
            have pre2 := pre1.app (X := [.lst [spD s]])
            simp [ir, sg20, h0]
            generalize hL2 : L1 ++ [Cell.lst [spD s]] = L2 at *
            have sA := sliceD_loc (a := none) (b := some (-1)) hr2
            rw [cut_m1 (by simpa using h0)] at sA
            simp [sA, -List.map_dropLast]
            have hA3 := get_app (X := [.lst (r.map spD).dropLast]) hA2
            have hB3 := get_last (L := L2) (c := .lst (r.map spD).dropLast)
            have pre3 := pre2.app (X := [.lst (r.map spD).dropLast])
            generalize hL3 : L2 ++ [Cell.lst (r.map spD).dropLast] = L3 at *
            rw [fAdd_lst hA3 hB3 (by simp; omega)]
            have ew : [spD s] ++ (r.map spD).dropLast = w.map spD := by rw [ww]; simp
            have hw := get_last (L := L3) (c := .lst ([spD s] ++ (r.map spD).dropLast))
            rw [ew] at hw ⊢
            exact wp_truncPL pre3.app pre3.le hw (closeds_sps _ _) ⟨rfl, rfl⟩
          · have ww := wd
            rw [if_neg c3] at ww
            obtain ⟨i, rfl, ns⟩ := t1 (by omega)
            have sg1 := fn_has_sign_eq L1 h i way
            rw [decide_eq_false ns] at sg1
            have ei : ((i : Int) + 1 - 1) = (i : Int) := by omega
            have sA := sliceD_from 1 hr1
            have sA' : sliceD (.loc n) (some 1) none L1 = _ := sA
            have hA2 := get_last (L := L1) (c := .lst ((r.map spD).drop 1))
            have pre2 := pre1.app (X := [.lst ((r.map spD).drop 1)])
            have fin : ∀ E', wpR (fAdd (.loc L1.length) (.loc (L1.length + 1)) (L1 ++ [.lst ((r.map spD).drop 1), .lst [spD s]])) (Po.fn L (fun d L' => d = D.loc (List.length L) ∧ L' = L ++ [Cell.lst (List.map spD w)]) noE).rt E' := fun E' => by
              have hA3 : (L1 ++ [Cell.lst ((r.map spD).drop 1), Cell.lst [spD s]])[L1.length]? = some (.lst ((r.map spD).drop 1)) := by simp
              have hB3 : (L1 ++ [Cell.lst ((r.map spD).drop 1), Cell.lst [spD s]])[L1.length + 1]? = some (.lst [spD s]) := by simp
              have pre3 := pre1.app (X := [Cell.lst ((r.map spD).drop 1), Cell.lst [spD s]])
              generalize hL3 : L1 ++ [Cell.lst ((r.map spD).drop 1), Cell.lst [spD s]] = L3 at *
              rw [fAdd_lst hA3 hB3 (by simp; omega)]
              have ew : (r.map spD).drop 1 ++ [spD s] = w.map spD := by rw [ww]; simp
              have hw := get_last (L := L3) (c := .lst ((r.map spD).drop 1 ++ [spD s]))
              rw [ew] at hw ⊢
              exact wp_truncPL pre3.app pre3.le hw (closeds_sps _ _) ⟨rfl, rfl⟩
            by_cases c4 : i + 1 < r.length
            · have ns2 : ¬ hasSg h (i + 1) way := fun z => c2 ⟨c4, z⟩
              have sg2 := fn_has_sign_eq L1 h (i + 1) way
              rw [decide_eq_false ns2, show ((i + 1 : Nat) : Int) = (i : Int) + 1 by omega] at sg2
              have lt2 : (i : Int) + 1 < r.length := by omega
              have ne0 : ¬ ((i : Int) + 1 = 0) := by omega
              simp [sg1, ei, ir, sg2, lt2, ne0, sA', -List.map_drop, -List.drop_one]
              exact fin _
            · have lt2 : ¬ ((i : Int) + 1 < r.length) := by omega
              have ne0 : ¬ ((i : Int) + 1 = 0) := by omega
              simp [sg1, ei, ir, lt2, ne0, sA', -List.map_drop, -List.drop_one]
              exact fin _
    · obtain ⟨q, hq, rfl⟩ := List.mem_map.mp hx
      have z := fn_is_below_eq (L ++ [.lst acc]) (Fit.of (hs q hq).1 hN) (Fit.of hsx hN)
      have e : (∃ q1 : Spo, spD q = spD q1 ∧ q1.x < s.x) = (q.x < s.x) := propext ⟨fun ⟨q1, e, h⟩ => by rw [encS.inj e]; exact h, fun h => ⟨q, rfl, h⟩⟩
      simp only [e]
      simp [tE, eCall, aCons, aNil, eOp, eVar, eC, R3.bind, z]
      trace_state
  obtain ⟨d, L', e, rfl, rfl⟩ := key.ex
  exact e
theorem lim_err {N k : Nat} {q : List Rat} (hk : q.length ≤ 8) (hs : 100000 * N + 400000 ≤ LIM) : (q.length + 4) * (3400 * N + 8100 + 2 * N + 6) + 10 ≤ LIM := by
  have := Nat.mul_le_mul (show q.length + 4 ≤ 12 by omega) (Nat.le_refl (3400 * N + 8100 + 2 * N + 6))
  omega
/-- a spot of a table that is exchanged -/
noncomputable def nextR (r : List Spo) (s : Spo) : List Spo := withSpot r (firstE r) s (sgn (errS (lvPoly r) s))
theorem fn_exchanged_eq {L : Lh} {N a b : Nat} {t r : List Spo} {s : Spo} (ht : L[a]? = some (.lst (t.map spD))) (hr : L[b]? = some (.lst (r.map spD))) (hs : s ∈ t) (st : SzT N t) (sr : SzT N r) (rr : RiseS r) (hw : WPos r) (h2 : 2 ≤ r.length) (h8 : r.length ≤ 8) (hN : 100000 * N + 400000 ≤ LIM) (hb : rabs (firstE r) < rabs (errS (lvPoly r) s)) :
    fn_exchanged [.loc a, .loc b, spD s] L = .val (.loc L.length) (L ++ [.lst ((nextR r s).map spD)]) := by
  have hR := riseS_iff.mpr rr
  have lv := fn_level_eq hr sr hw hR.dis h8 h2 hN
  have sp := lvPoly_sz sr hw hR.dis h8
  have ll := lvPoly_len r
  have er := fn_error_at_eq L (st s hs) sp (lim_err (k := 0) (by omega) hN)
  have fe := errS_fit (st s hs) sp (lim_err (k := 0) (by omega) hN)
  have ff : Fit (firstE r) := Fit.of (firstE_sz sr hw hR.dis h8 (by omega)) (by omega)
  have be := fn_is_below_eq L (fit_abs ff) (fit_abs fe)
  rw [decide_eq_true hb] at be
  have sx := (st s hs).1
  have ws := fn_with_spot_eq (h := firstE r) (way := sgn (errS (lvPoly r) s)) hr (by omega) (by omega) sr sx (by omega)
  have key : wpR (fn_exchanged [.loc a, .loc b, spD s] L) (fun d L' => d = .loc L.length ∧ L' = L ++ [.lst ((nextR r s).map spD)]) noE := by
    unfold fn_exchanged d_exchanged
    refine wp_run rfl ?_
    simp [fn_is_spot_eq ht hs, lv, er, fn_bare_eq, be, fn_sign_eq, ws]
    exact wp_truncPL Pre.new (Nat.le_refl _) get_last (closeds_sps _ _) ⟨rfl, rfl⟩
  obtain ⟨d, L', e, rfl, rfl⟩ := key.ex
  exact e
theorem wp_truncT {L L' : Lh} {xs : List D} {Q : D → Lh → Prop} {E : Str → Lh → Prop} (hc : closed L.length (.tup xs) = false) (h : Q (.tup xs) L') : wpR (trunc L (.tup xs) L') Q E := by
  have : trunc L (.tup xs) L' = .val (.tup xs) L' := by
    unfold trunc
    split
    · rw [if_neg (by rw [hc]; decide)]
    · rfl
  rw [this]; exact h
/-- a reference of a table -/
structure RefOf (t : List Spo) (m : Nat) (r : List Spo) : Prop where
  len : r.length = m
  rise : RiseS r
  mem : ∀ s ∈ r, s ∈ t
theorem RefOf.sz {N m : Nat} {t r : List Spo} (h : RefOf t m r) (st : SzT N t) : SzT N r := fun s hs => st s (h.mem s hs)
theorem RefOf.w {m : Nat} {t r : List Spo} (h : RefOf t m r) (wt : WPos t) : WPos r := fun s hs => wt s (h.mem s hs)
/-- one step to the nearest -/
def Step (t r r' : List Spo) : Prop := ∃ s ∈ t, (∀ q ∈ t, rabs (errS (lvPoly r) q) ≤ rabs (errS (lvPoly r) s)) ∧ rabs (firstE r) < rabs (errS (lvPoly r) s) ∧ r' = nextR r s
theorem RefOf.step {m : Nat} {t r r' : List Spo} (h : RefOf t m r) (ht : RiseS t) (wt : WPos t) (h2 : 2 ≤ m) (hs : Step t r r') : RefOf t m r' ∧ rabs (firstE r) < rabs (firstE r') := by
  obtain ⟨s, hst, _, hb, rfl⟩ := hs
  have hw := h.w wt
  have hR := riseS_iff.mpr h.rise
  have hl := h.len
  have he := fun k (hk : k < r.length) => errS_level hR hw (by omega) hk
  have hx : ∀ q ∈ r, q.x ≠ s.x := fun q hq e => by
    have same : q = s := by
      obtain ⟨i, hi, rfl⟩ := List.getElem_of_mem (h.mem q hq)
      obtain ⟨j, hj, rfl⟩ := List.getElem_of_mem hst
      have pw := List.pairwise_iff_getElem.mp ht
      rcases Nat.lt_trichotomy i j with c | c | c
      · have := pw i j hi hj c; rw [e] at this; exact absurd this Rat.lt_irrefl
      · subst c; rfl
      · have := pw j i hj hi c; rw [e] at this; exact absurd this Rat.lt_irrefl
    subst same
    obtain ⟨k, hk, rfl⟩ := List.getElem_of_mem hq
    rw [he k hk] at hb
    have : rabs (sg k * firstE r) = rabs (firstE r) := by
      rcases sg_cases k with c | c <;> rw [c]
      · congr 1; grind
      · rw [show (-1 : Rat) * firstE r = -firstE r by grind, rabs_neg]
    rw [this] at hb
    exact absurd hb Rat.lt_irrefl
  have w := withSpot_right (p := lvPoly r) (h := firstE r) (s := s) h.rise hw (wt s hst) (by omega) (lvPoly_len r) he hb hx
  refine ⟨⟨by rw [nextR, w.1, hl], w.2.1, fun q hq => ?_⟩, w.2.2.2⟩
  rcases w.2.2.1 q hq with c | c
  · rw [c]; exact hst
  · exact h.mem q c
/-- references, one behind another -/
def Chain (t : List Spo) : List (List Spo) → Prop
  | [] => True
  | [_] => True
  | a :: b :: r => Step t a b ∧ Chain t (b :: r)
theorem Chain.snoc {t b : List Spo} : ∀ {rs : List (List Spo)} {a : List Spo}, Chain t (rs ++ [a]) → Step t a b → Chain t (rs ++ [a] ++ [b])
  | [], a, _, h => ⟨h, trivial⟩
  | [x], a, h, h2 => ⟨h.1, h2, trivial⟩
  | x :: y :: rs, a, h, h2 => ⟨h.1, Chain.snoc (rs := y :: rs) h.2 h2⟩
/-- lists of the cells that hold references -/
def Holds' (L : Lh) (locs : List Nat) (rs : List (List Spo)) : Prop := locs.length = rs.length ∧ ∀ i (h : i < locs.length) (h2 : i < rs.length), L[locs[i]]? = some (.lst (rs[i].map spD))
/-- what nearest tells -/
structure Near (t : List Spo) (m : Nat) (rs : List (List Spo)) (r : List Spo) : Prop where
  ref : RefOf t m r
  chain : Chain t rs
  last : ∃ qs, rs = qs ++ [r]
  all : ∀ q ∈ rs, RefOf t m q
  even : ∀ s ∈ t, rabs (errS (lvPoly r) s) ≤ rabs (firstE r)
theorem fn_climbed_wp {L : Lh} {N a b m : Nat} {t r0 : List Spo} {Q : D → Lh → Prop} {E : Str → Lh → Prop} (ht : L[a]? = some (.lst (t.map spD))) (hr : L[b]? = some (.lst (r0.map spD))) (h0 : RefOf t m r0) (rt : RiseS t) (wt : WPos t) (st : SzT N t) (h2 : 2 ≤ m) (h8 : m ≤ 8) (hl : t.length ≤ 16) (hN : 100000 * N + 400000 ≤ LIM)
    (h : ∀ rs r T locs L', Near t m rs r → rs.head? = some r0 → L'[T]? = some (.lst (locs.map D.loc)) → L.length ≤ T → Holds' L' locs rs → (∀ l ∈ locs, L.length ≤ l ∧ l ≠ T) → Pre L L' → Q (.tup [pol (lvPoly r), fr (rabs (firstE r)), .loc T]) L') : wpR (fn_climbed [.loc a, .loc b] L) Q E := by
  have i0 := items_loc hr
  have tl0 : 0 < t.length := by
    cases t with
    | nil =>
      have := h0.len
      cases r0 with
      | nil => simp at this; omega
      | cons x r => exact absurd (h0.mem x (by simp)) (by simp)
    | cons x t => simp
  have lvl : ∀ {X : Lh} {c : Nat} {r : List Spo}, X[c]? = some (.lst (r.map spD)) → RefOf t m r → fn_level [.loc c] X = .val (.tup [pol (lvPoly r), fr (firstE r)]) X := fun {X c r} hc hr => by
    have hl := hr.len
    exact fn_level_eq hc (hr.sz st) (hr.w wt) (riseS_iff.mpr hr.rise).dis (by omega) (by omega) hN
  have spz : ∀ {r : List Spo}, RefOf t m r → SzP (3400 * N + 8100) (lvPoly r) ∧ (lvPoly r).length ≤ 8 := fun {r} hr => by
    have hl := hr.len
    have := lvPoly_len r
    exact ⟨lvPoly_sz (hr.sz st) (hr.w wt) (riseS_iff.mpr hr.rise).dis (by omega), by omega⟩
  have far : ∀ {X : Lh} {r : List Spo}, X[a]? = some (.lst (t.map spD)) → RefOf t m r → ∃ s ∈ t, fn_farthest [.loc a, pol (lvPoly r)] X = .val (spD s) X ∧ ∀ q ∈ t, rabs (errS (lvPoly r) q) ≤ rabs (errS (lvPoly r) s) := fun {X r} hX hr =>
    fn_farthest_eq hX st (spz hr).1 (by omega) tl0 (lim_err (k := 0) (spz hr).2 hN)
  unfold fn_climbed d_climbed
  refine wp_run rfl ?_
  simp [i0]
  have hA : (L ++ [Cell.lst (r0.map spD), Cell.lst [.loc L.length]])[L.length]? = some (.lst (r0.map spD)) := by simp
  have hB : (L ++ [Cell.lst (r0.map spD), Cell.lst [.loc L.length]])[L.length + 1]? = some (.lst ([L.length].map D.loc)) := by simp
  have ht1 := get_app (X := [Cell.lst (r0.map spD), Cell.lst [.loc L.length]]) ht
  have pre1 : Pre L (L ++ [Cell.lst (r0.map spD), Cell.lst [.loc L.length]]) := Pre.new
  generalize hL1 : L ++ [Cell.lst (r0.map spD), Cell.lst [.loc L.length]] = L1 at *
  have x0 : fIx (.loc (L.length + 1)) (.int 0) L1 = .val (.loc L.length) L1 := fIx_listS (by rw [itemsT_loc]; exact items_loc hB) rfl
  obtain ⟨s0, hs0, fs0, fm0⟩ := far ht1 h0
  simp [x0, lvl hA h0, fs0]
  refine wp_whl (fun k Γ L' => ∃ qs r s locs c, Γ = [some (.loc a), some (.loc b), some (.loc (L.length + 1)), some (pol (lvPoly r)), some (fr (firstE r)), some (spD s)] ∧ RefOf t m r ∧ Chain t (qs ++ [r]) ∧ (qs ++ [r]).head? = some r0 ∧ (∀ q ∈ qs ++ [r], RefOf t m q) ∧ s ∈ t ∧ (∀ q ∈ t, rabs (errS (lvPoly r) q) ≤ rabs (errS (lvPoly r) s)) ∧ k = mu t r ∧ qs.length + k ≤ 2 ^ t.length ∧ L'[L.length + 1]? = some (.lst ((locs ++ [c]).map D.loc)) ∧ Holds' L' (locs ++ [c]) (qs ++ [r]) ∧ (∀ l ∈ locs ++ [c], L.length ≤ l ∧ l ≠ L.length + 1) ∧ Pre L L' ∧ L.length + 2 ≤ L'.length) (mu t r0)
    ⟨[], r0, s0, [], L.length, rfl, h0, trivial, rfl, (fun q hq => by rw [List.mem_singleton.mp hq]; exact h0), hs0, fm0, rfl, by have := mu_le t r0; simp; omega, hB, ⟨rfl, fun i h _ => by
      obtain rfl : i = 0 := by simp at h; omega
      exact hA⟩, (fun l hl => by rw [List.mem_singleton.mp hl]; omega), pre1, by rw [← hL1]; simp⟩ (fun k Γ L2 J hJ hI => ?_)
  obtain ⟨qs, r, s, locs, c, rfl, hrr, hch, hhd, hall, hs, hfar, hk, hlen, hT, hH, hloc, pre2, hL2⟩ := hI
  have ht2 := pre2.get ht
  have hrl := hrr.len
  have hwr := hrr.w wt
  have hRr := riseS_iff.mpr hrr.rise
  have hc2 : L2[c]? = some (.lst (r.map spD)) := by
    have hl := hH.1
    simp at hl
    have := hH.2 locs.length (by simp) (by simp; omega)
    rw [List.getElem_append_right (by omega), List.getElem_append_right (by omega)] at this
    simp [hl] at this
    exact this
  have er := fn_error_at_eq L2 (st s hs) (spz hrr).1 (lim_err (k := 0) (spz hrr).2 hN)
  have fe := errS_fit (st s hs) (spz hrr).1 (lim_err (k := 0) (spz hrr).2 hN)
  have ff : Fit (firstE r) := Fit.of (firstE_sz (hrr.sz st) hwr hRr.dis (by omega) (by omega)) (by omega)
  have be := fn_is_below_eq L2 (fit_abs ff) (fit_abs fe)
  simp [er, fn_bare_eq, be]
  refine wp_wh (fun z => ?_) (fun z => ?_)
  · have ex := fn_exchanged_eq ht2 hc2 hs st (hrr.sz st) hrr.rise hwr (by omega) (by omega) hN z
    have xm : fIx (.loc (L.length + 1)) (.int (-1)) L2 = .val (.loc c) L2 := fIx_listS (by rw [itemsT_loc]; exact items_loc hT) (by rw [List.map_append]; exact atI_m1 _ _)
    have hstep : Step t r (nextR r s) := ⟨s, hs, hfar, z, rfl⟩
    obtain ⟨hrr', hup⟩ := hrr.step rt wt h2 hstep
    have hmu := mu_lt (t := t) hup (mem_subs rt hrr'.rise hrr'.mem)
    simp [hT, xm]
    simp only [ex]
    generalize hr' : nextR r s = r' at *
    have hT3 := get_app (X := [.lst (r'.map spD)]) hT
    have hn3 := get_last (L := L2) (c := .lst (r'.map spD))
    have pre3 := pre2.app (X := [.lst (r'.map spD)])
    have get3 : ∀ {i : Nat} {c : Cell}, L2[i]? = some c → (L2 ++ [Cell.lst (r'.map spD)])[i]? = some c := fun h => get_app h
    have len3 : L2.length + 1 = (L2 ++ [Cell.lst (r'.map spD)]).length := by simp
    generalize hL3 : L2 ++ [Cell.lst (r'.map spD)] = L3 at *
    have p16 : 2 ^ t.length ≤ 2 ^ 16 := Nat.pow_le_pow_right (by decide) hl
    have hHl := hH.1
    simp at hHl
    simp
    rw [mAppend_eq hT3 (by simp; omega)]
    have eT : (locs ++ [c]).map D.loc ++ [D.loc L2.length] = (locs ++ [c] ++ [L2.length]).map D.loc := by simp
    rw [eT]
    have hT4 := get_set (d := .lst ((locs ++ [c] ++ [L2.length]).map D.loc)) hT3
    have keep : ∀ {i : Nat} {c' : Cell}, L3[i]? = some c' → L.length + 1 ≠ i → (L3.set (L.length + 1) (.lst ((locs ++ [c] ++ [L2.length]).map D.loc)))[i]? = some c' := fun h hn => get_set_ne h hn
    have hn4 := keep hn3 (by omega)
    have pre4 := pre3.set (m := L.length + 1) (c := .lst ((locs ++ [c] ++ [L2.length]).map D.loc)) (by omega)
    have len4 : (L3.set (L.length + 1) (Cell.lst ((locs ++ [c] ++ [L2.length]).map D.loc))).length = L3.length := by simp
    generalize hL4 : L3.set (L.length + 1) (Cell.lst ((locs ++ [c] ++ [L2.length]).map D.loc)) = L4 at *
    have ht4 := pre4.get ht
    have xm4 : fIx (.loc (L.length + 1)) (.int (-1)) L4 = .val (.loc L2.length) L4 := fIx_listS (by rw [itemsT_loc]; exact items_loc hT4) (by rw [List.map_append]; exact atI_m1 _ _)
    obtain ⟨s', hs', fs', fm'⟩ := far ht4 hrr'
    simp [xm4, lvl hn4 hrr', fs']
    have hl2 : qs.length + 1 + mu t r' ≤ 2 ^ t.length := by omega
    refine hJ (mu t r') _ _ (by omega) ⟨qs ++ [r], r', s', locs ++ [c], L2.length, rfl, hrr', Chain.snoc hch hstep, ?_, fun q hq => ?_, hs', fm', rfl, by simp; omega, hT4, ⟨by simp; omega, fun i h h' => ?_⟩, fun l hl => ?_, pre4, by omega⟩
    · rw [List.head?_append, hhd]; rfl
    · rcases List.mem_append.mp hq with hq | hq
      · exact hall q hq
      · rw [List.mem_singleton.mp hq]; exact hrr'
    · by_cases e : i < (locs ++ [c]).length
      · have e2 : i < (qs ++ [r]).length := by simp at e ⊢; omega
        rw [List.getElem_append_left e, List.getElem_append_left e2]
        have m := hloc _ (List.getElem_mem e)
        exact keep (get3 (hH.2 i e e2)) (by omega)
      · have e1 : i = (locs ++ [c]).length := by simp at h e ⊢; omega
        subst e1
        rw [List.getElem_append_right (by omega), List.getElem_append_right (by simp; omega)]
        simp [hHl]
        exact hn4
    · rcases List.mem_append.mp hl with hl | hl
      · exact hloc l hl
      · rw [List.mem_singleton.mp hl]; omega
  · simp [fn_bare_eq]
    have ev : ∀ q ∈ t, rabs (errS (lvPoly r) q) ≤ rabs (firstE r) := fun q hq => by
      have := hfar q hq
      have z' := Rat.not_lt.mp z
      grind
    refine wp_truncT ?_ (h (qs ++ [r]) r (L.length + 1) (locs ++ [c]) L2 ⟨hrr, hch, ⟨qs, rfl⟩, hall, ev⟩ hhd hT (by omega) hH hloc pre2)
    simp [closed]
theorem fn_nearest_wp {L : Lh} {N a n : Nat} {t : List Spo} {Q : D → Lh → Prop} {E : Str → Lh → Prop} (ht : L[a]? = some (.lst (t.map spD))) (rt : RiseS t) (wt : WPos t) (st : SzT N t) (h8 : n ≤ 6) (hl : t.length ≤ 16) (hn : n + 2 ≤ t.length) (hN : 100000 * N + 400000 ≤ LIM)
    (h : ∀ rs r T locs L', Near t (n + 2) rs r → rs.head? = some (t.take (n + 2)) → L'[T]? = some (.lst (locs.map D.loc)) → L.length ≤ T → Holds' L' locs rs → (∀ l ∈ locs, L.length ≤ l ∧ l ≠ T) → Pre L L' → Q (.tup [pol (lvPoly r), fr (rabs (firstE r)), .loc T]) L') : wpR (fn_nearest [.loc a, .int (n : Nat)] L) Q E := by
  have i0 := items_loc ht
  have n1 : ¬ ((t.length : Int) < (n : Int) + 2) := by omega
  unfold fn_nearest d_nearest
  refine wp_run rfl ?_
  have sA := sliceD_loc (a := none) (b := some ((n + 2 : Nat) : Int)) ht
  rw [cut_to, show ((n + 2 : Nat) : Int) = (n : Int) + 2 by omega, ← List.map_take] at sA
  simp [i0, n1, sA, -List.map_take]
  have hA := get_last (L := L) (c := .lst ((t.take (n + 2)).map spD))
  have ht1 := get_app (X := [.lst ((t.take (n + 2)).map spD)]) ht
  have pre1 : Pre L (L ++ [Cell.lst ((t.take (n + 2)).map spD)]) := Pre.new
  have len1 : (L ++ [Cell.lst ((t.take (n + 2)).map spD)]).length = L.length + 1 := by simp
  generalize hL1 : L ++ [Cell.lst ((t.take (n + 2)).map spD)] = L1 at *
  refine fn_climbed_wp (m := n + 2) ht1 hA ⟨by rw [List.length_take]; omega, rt.sublist (List.take_sublist _ _), fun s hs => List.mem_of_mem_take hs⟩ rt wt st (by omega) (by omega) hl hN fun rs r T locs L' hnear hhd hT hTl hH hloc pre => ?_
  refine wp_truncT ?_ (h rs r T locs L' hnear hhd hT (by omega) hH (fun l hl => ⟨by have := (hloc l hl).1; omega, (hloc l hl).2⟩) (pre1.trans pre))
  simp [closed]; omega
noncomputable def d_law_potC : S3 :=
    (sSeq (sSet 2 (eIf (tE (eOp fLt (eVar 1) (eCall fLen (aCons (eVar 0) aNil)))) (eOp fIx (eVar 0) (eVar 1)) (eC (.int 0))))
    (sRet (eLst (aCons (eCall fMax2 (aCons (eC (.int 0)) (aCons (eOp fSub (eCall fAbs (aCons (eVar 2) aNil)) (eOp fPow (eC (.int 10)) (eC (.int 18)))) aNil))) (aCons (eOp fAdd (eOp fMod (eOp fAdd (eOp fAdd (eCall fAbs (aCons (eVar 2) aNil)) (eOp fMul (eC (.int 7919)) (eVar 1))) (eC (.int 3))) (eC (.int 2147483629))) (eC (.int 1))) aNil)))))
noncomputable def fn_law_potC : Fn3 := run3 2 3 d_law_potC
noncomputable def d_law_drawC : S3 :=
    (sSeq (sIf (tE (eOp fGt (eOp fIx (eVar 0) (eC (.int 0))) (eC (.int 0)))) (sSeq (sAsg (eCall fDivmod (aCons (eOp fIx (eVar 0) (eC (.int 0))) (aCons (eVar 1) aNil))) (gT 2 (gCons3 (gS (eVar 0) (eC (.int 0))) (gCons3 (gN 2) gNil3))))
    (sRet (eVar 2))) sNext)
    (sSeq (sAsg (eOp fMod (eOp fAdd (eOp fMul (eOp fIx (eVar 0) (eC (.int 1))) (eC (.int 48271))) (eC (.int 39373))) (eC (.int 2147483647))) (gS (eVar 0) (eC (.int 1))))
    (sRet (eOp fMod (eOp fFdiv (eOp fMod (eOp fMul (eOp fIx (eVar 0) (eC (.int 1))) (eOp fIx (eVar 0) (eC (.int 1)))) (eC (.int 2147483629))) (eC (.int 3))) (eVar 1)))))
noncomputable def fn_law_drawC : Fn3 := run3 2 3 d_law_drawC
noncomputable def d_law_lowC : S3 :=
    (sSeq (sPar 2 3 (eCall fAbs (aCons (eVar 0) aNil)) (eCall fAbs (aCons (eVar 1) aNil)))
    (sSeq (sWhile (tE (eOp fGt (eVar 3) (eC (.int 0)))) (sPar 2 3 (eVar 3) (eOp fMod (eVar 2) (eVar 3))))
    (sSeq (sIf (tE (eOp fLt (eVar 1) (eC (.int 0)))) (sSet 2 (eUn fNeg (eVar 2))) sNext)
    (sRet (eTup (aCons (eOp fFdiv (eVar 0) (eVar 2)) (aCons (eOp fFdiv (eVar 1) (eVar 2)) aNil)))))))
noncomputable def fn_law_lowC : Fn3 := run3 2 4 d_law_lowC
noncomputable def d_law_plusC : S3 :=
    (sRet (eCall fn_law_lowC (aCons (eOp fAdd (eOp fMul (eOp fIx (eVar 0) (eC (.int 0))) (eOp fIx (eVar 1) (eC (.int 1)))) (eOp fMul (eOp fIx (eVar 1) (eC (.int 0))) (eOp fIx (eVar 0) (eC (.int 1))))) (aCons (eOp fMul (eOp fIx (eVar 0) (eC (.int 1))) (eOp fIx (eVar 1) (eC (.int 1)))) aNil))))
noncomputable def fn_law_plusC : Fn3 := run3 2 2 d_law_plusC
noncomputable def d_law_lessC : S3 :=
    (sRet (eCall fn_law_lowC (aCons (eOp fSub (eOp fMul (eOp fIx (eVar 0) (eC (.int 0))) (eOp fIx (eVar 1) (eC (.int 1)))) (eOp fMul (eOp fIx (eVar 1) (eC (.int 0))) (eOp fIx (eVar 0) (eC (.int 1))))) (aCons (eOp fMul (eOp fIx (eVar 0) (eC (.int 1))) (eOp fIx (eVar 1) (eC (.int 1)))) aNil))))
noncomputable def fn_law_lessC : Fn3 := run3 2 2 d_law_lessC
noncomputable def d_law_timesC : S3 :=
    (sRet (eCall fn_law_lowC (aCons (eOp fMul (eOp fIx (eVar 0) (eC (.int 0))) (eOp fIx (eVar 1) (eC (.int 0)))) (aCons (eOp fMul (eOp fIx (eVar 0) (eC (.int 1))) (eOp fIx (eVar 1) (eC (.int 1)))) aNil))))
noncomputable def fn_law_timesC : Fn3 := run3 2 2 d_law_timesC
noncomputable def d_law_byC : S3 :=
    (sRet (eCall fn_law_lowC (aCons (eOp fMul (eOp fIx (eVar 0) (eC (.int 0))) (eOp fIx (eVar 1) (eC (.int 1)))) (aCons (eOp fMul (eOp fIx (eVar 0) (eC (.int 1))) (eOp fIx (eVar 1) (eC (.int 0)))) aNil))))
noncomputable def fn_law_byC : Fn3 := run3 2 2 d_law_byC
noncomputable def d_law_is_moreC : S3 :=
    (sRet (eOp fGt (eOp fMul (eOp fIx (eVar 0) (eC (.int 0))) (eOp fIx (eVar 1) (eC (.int 1)))) (eOp fMul (eOp fIx (eVar 1) (eC (.int 0))) (eOp fIx (eVar 0) (eC (.int 1))))))
noncomputable def fn_law_is_moreC : Fn3 := run3 2 2 d_law_is_moreC
noncomputable def d_law_bareC : S3 :=
    (sRet (eTup (aCons (eCall fAbs (aCons (eOp fIx (eVar 0) (eC (.int 0))) aNil)) (aCons (eOp fIx (eVar 0) (eC (.int 1))) aNil))))
noncomputable def fn_law_bareC : Fn3 := run3 1 1 d_law_bareC
noncomputable def d_law_numbersC : S3 :=
    (sSeq (sSet 2 (eCall fn_law_drawC (aCons (eVar 0) (aCons (eC (.int 8)) aNil))))
    (sSeq (sIf (tE (eOp fEq (eVar 2) (eC (.int 7)))) (sSeq (sSet 3 (eLst aNil))
    (sSeq (sFor (iR1 (aCons (eVar 1) aNil)) (gN 4) (sSeq (sSet 5 (eOp fAdd (eC (.int 1)) (eCall fn_law_drawC (aCons (eVar 0) (aCons (eOp fIx (eLst (aCons (eC (.int 99)) (aCons (eOp fPow (eC (.int 10)) (eC (.int 11))) aNil))) (eCall fIntOf (aCons (eOp fLt (eVar 1) (eC (.int 6))) aNil))) aNil)))))
    (sDrop (eMt "list" mAppend (eVar 3) (aCons (eCall fn_law_lowC (aCons (eOp fAdd (eOp fMul (eOp fSub (eVar 4) (eC (.int 4))) (eVar 5)) (eCall fn_law_drawC (aCons (eVar 0) (aCons (eVar 5) aNil)))) (aCons (eVar 5) aNil))) aNil)))))
    (sRet (eVar 3)))) sNext)
    (sSeq (sPar3 6 7 8 (eOp fSub (eCall fn_law_drawC (aCons (eVar 0) (aCons (eC (.int 19)) aNil))) (eC (.int 9))) (eC (.int 1)) (eC (.int 2)))
    (sSeq (sIf (tE (eOp fEq (eVar 2) (eC (.int 5)))) (sPar 7 8 (eOp fAdd (eC (.int 1)) (eCall fn_law_drawC (aCons (eVar 0) (aCons (eC (.int 6)) aNil)))) (eC (.int 5))) sNext)
    (sSeq (sIf (tE (eOp fEq (eVar 2) (eC (.int 6)))) (sPar3 6 7 8 (eOp fSub (eCall fn_law_drawC (aCons (eVar 0) (aCons (eOp fPow (eC (.int 10)) (eC (.int 11))) aNil))) (eOp fMul (eC (.int 5)) (eOp fPow (eC (.int 10)) (eC (.int 11))))) (eOp fAdd (eC (.int 1)) (eCall fn_law_drawC (aCons (eVar 0) (aCons (eOp fSub (eOp fPow (eC (.int 10)) (eC (.int 12))) (eC (.int 1))) aNil)))) (eOp fPow (eC (.int 10)) (eC (.int 11)))) sNext)
    (sSeq (sSet 3 (eLst aNil))
    (sSeq (sFor (iR1 (aCons (eVar 1) aNil)) (gN 4) (sSeq (sDrop (eMt "list" mAppend (eVar 3) (aCons (eCall fn_law_lowC (aCons (eVar 6) (aCons (eVar 7) aNil))) aNil)))
    (sSet 6 (eOp fAdd (eOp fAdd (eVar 6) (eC (.int 1))) (eCall fn_law_drawC (aCons (eVar 0) (aCons (eVar 8) aNil)))))))
    (sRet (eVar 3)))))))))
noncomputable def fn_law_numbersC : Fn3 := run3 2 9 d_law_numbersC
noncomputable def d_law_valueC : S3 :=
    (sSeq (sSet 2 (eCall fn_law_drawC (aCons (eVar 0) (aCons (eC (.int 8)) aNil))))
    (sSeq (sIf (tE (eOp fEq (eVar 2) (eC (.int 7)))) (sSeq (sSet 3 (eOp fIx (eLst (aCons (eC (.int 99)) (aCons (eOp fSub (eOp fPow (eC (.int 10)) (eC (.int 12))) (eC (.int 1))) aNil))) (eCall fIntOf (aCons (eOp fLt (eVar 1) (eC (.int 6))) aNil))))
    (sRet (eCall fn_law_lowC (aCons (eOp fAdd (eOp fSub (eCall fn_law_drawC (aCons (eVar 0) (aCons (eOp fSub (eOp fMul (eC (.int 2)) (eOp fPow (eC (.int 10)) (eC (.int 12)))) (eC (.int 1))) aNil))) (eOp fPow (eC (.int 10)) (eC (.int 12)))) (eC (.int 1))) (aCons (eOp fAdd (eC (.int 1)) (eCall fn_law_drawC (aCons (eVar 0) (aCons (eVar 3) aNil)))) aNil))))) sNext)
    (sSeq (sIf (tE (eOp fGt (eVar 2) (eC (.int 4)))) (sRet (eCall fn_law_lowC (aCons (eOp fSub (eCall fn_law_drawC (aCons (eVar 0) (aCons (eC (.int 199)) aNil))) (eC (.int 99))) (aCons (eOp fAdd (eC (.int 1)) (eCall fn_law_drawC (aCons (eVar 0) (aCons (eC (.int 12)) aNil)))) aNil)))) sNext)
    (sRet (eTup (aCons (eOp fSub (eCall fn_law_drawC (aCons (eVar 0) (aCons (eC (.int 9)) aNil))) (eC (.int 4))) (aCons (eC (.int 1)) aNil)))))))
noncomputable def fn_law_valueC : Fn3 := run3 2 4 d_law_valueC
noncomputable def d_law_weightC : S3 :=
    (sSeq (sSet 2 (eCall fn_law_drawC (aCons (eVar 0) (aCons (eC (.int 8)) aNil))))
    (sSeq (sIf (tE (eOp fLt (eVar 2) (eC (.int 5)))) (sRet (eTup (aCons (eC (.int 1)) (aCons (eC (.int 1)) aNil)))) sNext)
    (sSeq (sSet 3 (eOp fIx (eLst (aCons (eC (.int 9)) (aCons (eC (.int 99)) (aCons (eOp fIx (eLst (aCons (eC (.int 99)) (aCons (eOp fSub (eOp fPow (eC (.int 10)) (eC (.int 6))) (eC (.int 1))) aNil))) (eCall fIntOf (aCons (eOp fLt (eVar 1) (eC (.int 6))) aNil))) aNil)))) (eOp fSub (eVar 2) (eC (.int 5)))))
    (sRet (eCall fn_law_lowC (aCons (eOp fAdd (eC (.int 1)) (eCall fn_law_drawC (aCons (eVar 0) (aCons (eVar 3) aNil)))) (aCons (eOp fAdd (eC (.int 1)) (eCall fn_law_drawC (aCons (eVar 0) (aCons (eVar 3) aNil)))) aNil)))))))
noncomputable def fn_law_weightC : Fn3 := run3 2 4 d_law_weightC
noncomputable def d_law_degreeC : S3 :=
    (sSeq (sSet 2 (eCall fn_law_drawC (aCons (eVar 0) (aCons (eC (.int 4)) aNil))))
    (sSeq (sIf (tE (eOp fGt (eCall fn_law_drawC (aCons (eVar 0) (aCons (eC (.int 8)) aNil))) (eC (.int 5)))) (sSet 2 (eOp fAdd (eC (.int 4)) (eCall fn_law_drawC (aCons (eVar 0) (aCons (eC (.int 2)) aNil))))) sNext)
    (sRet (eCall fMin2 (aCons (eVar 2) (aCons (eVar 1) aNil))))))
noncomputable def fn_law_degreeC : Fn3 := run3 2 3 d_law_degreeC
noncomputable def d_law_tableC : S3 :=
    (sRet (eLc (iLT (eCall fn_law_numbersC (aCons (eVar 0) (aCons (eVar 1) aNil)))) (gN 2) tTrue (eTup (aCons (eVar 2) (aCons (eCall fn_law_valueC (aCons (eVar 0) (aCons (eVar 1) aNil))) (aCons (eCall fn_law_weightC (aCons (eVar 0) (aCons (eVar 1) aNil))) aNil)))) [2]))
noncomputable def fn_law_tableC : Fn3 := run3 2 3 d_law_tableC
noncomputable def d_law_atC : S3 :=
    (sSeq (sSet 2 (eTup (aCons (eC (.int 0)) (aCons (eC (.int 1)) aNil))))
    (sSeq (sFor (iRev (eVar 0)) (gN 3) (sSet 2 (eCall fn_law_plusC (aCons (eCall fn_law_timesC (aCons (eVar 2) (aCons (eVar 1) aNil))) (aCons (eVar 3) aNil)))))
    (sRet (eVar 2))))
noncomputable def fn_law_atC : Fn3 := run3 2 4 d_law_atC
noncomputable def d_law_errorC : S3 :=
    (sRet (eCall fn_law_timesC (aCons (eOp fIx (eVar 0) (eC (.int 2))) (aCons (eCall fn_law_lessC (aCons (eOp fIx (eVar 0) (eC (.int 1))) (aCons (eCall fn_law_atC (aCons (eVar 1) (aCons (eOp fIx (eVar 0) (eC (.int 0))) aNil))) aNil))) aNil))))
noncomputable def fn_law_errorC : Fn3 := run3 2 2 d_law_errorC
noncomputable def d_law_greatestC : S3 :=
    (sSeq (sSet 1 (eTup (aCons (eC (.int 0)) (aCons (eC (.int 1)) aNil))))
    (sSeq (sFor (iLT (eVar 0)) (gN 2) (sIf (tE (eCall fn_law_is_moreC (aCons (eCall fn_law_bareC (aCons (eVar 2) aNil)) (aCons (eVar 1) aNil)))) (sSet 1 (eCall fn_law_bareC (aCons (eVar 2) aNil))) sNext))
    (sRet (eVar 1))))
noncomputable def fn_law_greatestC : Fn3 := run3 1 3 d_law_greatestC
noncomputable def d_law_sizeC : S3 :=
    (sRet (eCall fn_law_greatestC (aCons (eLc (iLT (eVar 0)) (gN 2) tTrue (eCall fn_law_errorC (aCons (eVar 2) (aCons (eVar 1) aNil))) [2]) aNil)))
noncomputable def fn_law_sizeC : Fn3 := run3 2 3 d_law_sizeC
theorem law_drawC {m : Int} {n : Nat} {L : Lh} {Q : D → Lh → Prop} {E : Str → Lh → Prop} (hp : PotAt L n) (h0 : 0 < m) (hm : m < 2 ^ 60)
    (h : ∀ d L', 0 ≤ d → d < m → Grow n L L' → PotAt L' n → Q (.int d) L') : wpR (fn_law_drawC [.loc n, .int m] L) Q E := law_draw hp h0 hm h
theorem law_potC {ns : List Int} {k : Nat} {L : Lh} {Q : D → Lh → Prop} {E : Str → Lh → Prop} (hk : k ≤ 1000) (h : ∀ c, PotAt (L ++ [c]) L.length → Q (.loc L.length) (L ++ [c])) : wpR (fn_law_potC [.rol (ns.map D.int), .int k] L) Q E := law_pot hk h
theorem fn_law_lowC_eq {a b : Int} (L : Lh) (hb : b ≠ 0) : fn_law_lowC [.int a, .int b] L = .val (fr (Rat.divInt a b)) L := by
  have hg := gcd_pos (a := a) hb
  have gg : Int.gcd (a.natAbs : Int) (b.natAbs : Int) = Int.gcd a b := by simp [Int.gcd]
  apply wpR.eq
  unfold fn_law_lowC d_law_lowC
  refine wp_run rfl ?_
  simp [abs_if]
  refine wp_while (fun m Γ L' => ∃ x : Int, 0 ≤ x ∧ Γ = [some (.int a), some (.int b), some (.int x), some (.int m)] ∧ L' = L ∧ Int.gcd x m = Int.gcd a b) b.natAbs ⟨a.natAbs, by omega, rfl, rfl, gg⟩ (fun m Γ L' h => ?_)
  obtain ⟨x, hx, rfl, rfl, hgx⟩ := h
  simp
  by_cases hm : m = 0
  · subst hm
    have hx2 : x = (Int.gcd a b : Int) := by rw [← hgx]; simp [Int.gcd]; omega
    subst hx2
    simp
    refine wp_if (fun hb0 => ?_) (fun hb0 => ?_)
    · have e := frac_gcd a b hb (-(Int.gcd a b : Int)) (by rw [if_pos hb0])
      have c2 : Int.gcd a b ≠ 0 := by omega
      simp [c2, e]
    · have e := frac_gcd a b hb (Int.gcd a b : Int) (by rw [if_neg hb0])
      have c2 : Int.gcd a b ≠ 0 := by omega
      simp [c2, e]
  · have hm0 : (0 : Int) < (m : Int) := by omega
    have hnn := Int.emod_nonneg x (show (m : Int) ≠ 0 by omega)
    have hlt := Int.emod_lt_of_pos x hm0
    have e1 : x.fmod (m : Int) = ((x % (m : Int)).toNat : Int) := by
      rw [Int.fmod_eq_emod_of_nonneg _ (by omega), Int.toNat_of_nonneg hnn]
    have hm1 : 0 < m := by omega
    simp [hm1, hm]
    refine ⟨(x % (m : Int)).toNat, by omega, m, by omega, ⟨rfl, e1⟩, ?_⟩
    rw [Int.toNat_of_nonneg hnn, ← gcd_step hx hm0, hgx]
section
variable {p q : Rat}
theorem fn_law_plusC_eq (L : Lh) (hp : Fit p) (hq : Fit q) : fn_law_plusC [fr p, fr q] L = .val (fr (p + q)) L := by
  have z := fn_law_lowC_eq (a := p.num * q.den + q.num * p.den) L (dens_ne p q)
  rw [rat_add] at z
  apply wpR.eq
  unfold fn_law_plusC d_law_plusC
  refine wp_run rfl ?_
  simp [hp.1, hp.2, hq.1, hq.2, -fMul, z]
theorem fn_law_lessC_eq (L : Lh) (hp : Fit p) (hq : Fit q) : fn_law_lessC [fr p, fr q] L = .val (fr (p - q)) L := by
  have z := fn_law_lowC_eq (a := p.num * q.den - q.num * p.den) L (dens_ne p q)
  rw [rat_sub] at z
  apply wpR.eq
  unfold fn_law_lessC d_law_lessC
  refine wp_run rfl ?_
  simp [hp.1, hp.2, hq.1, hq.2, -fMul, z]
theorem fn_law_timesC_eq (L : Lh) (hp : Fit p) (hq : Fit q) : fn_law_timesC [fr p, fr q] L = .val (fr (p * q)) L := by
  have z := fn_law_lowC_eq (a := p.num * q.num) L (dens_ne p q)
  rw [rat_mul] at z
  apply wpR.eq
  unfold fn_law_timesC d_law_timesC
  refine wp_run rfl ?_
  simp [hp.1, hp.2, hq.1, hq.2, -fMul, z]
theorem fn_law_byC_eq (L : Lh) (hp : Fit p) (hq : Fit q) (h0 : q ≠ 0) : fn_law_byC [fr p, fr q] L = .val (fr (p / q)) L := by
  have z := fn_law_lowC_eq (a := p.num * q.den) L (Int.mul_ne_zero (den_ne p) (num_ne h0))
  rw [rat_div] at z
  apply wpR.eq
  unfold fn_law_byC d_law_byC
  refine wp_run rfl ?_
  simp [hp.1, hp.2, hq.1, hq.2, -fMul, z]
end
theorem fn_law_is_moreC_eq (L : Lh) {p q : Rat} (hp : Fit p) (hq : Fit q) : fn_law_is_moreC [fr p, fr q] L = .val (.bl (decide (q < p))) L := by
  have e := rat_lt_num q p
  apply wpR.eq
  unfold fn_law_is_moreC d_law_is_moreC
  refine wp_run rfl ?_
  simp [hp.1, hp.2, hq.1, hq.2, -fMul]
  simp [gt_iff_lt, e]
theorem fn_law_atC_eq {n m : Nat} {ps : List Rat} {x : Rat} (L : Lh) (h1 : SzP n ps) (h2 : Sz m x) (hk : (ps.length + 1) * (n + m + 2) + 1 ≤ LIM) : fn_law_atC [pol ps, fr x] L = .val (fr (ev ps x)) L := by
  have e0 : D.tup [.int 0, .int 1] = fr 0 := rfl
  rw [Nat.succ_mul] at hk
  apply wpR.eq
  unfold fn_law_atC d_law_atC
  refine wp_run rfl ?_
  simp [e0]
  refine wp_for (fun i Γ L' => L' = L ∧ ∃ v, Γ = [some (pol ps), some (fr x), some (fr (ev (ps.drop (ps.length - i)) x)), v]) ⟨rfl, _, by simp; rfl⟩ (fun _ _ _ _ _ => trivial) (fun i hi Γ L' J hJ h => ?_) (fun Γ L' h => ?_)
  · obtain ⟨rfl, v, rfl⟩ := h
    have hi' : i < ps.length := by simpa using hi
    have s1 : Sz (ps.length * (n + m + 2) + 1) (ev (ps.drop (ps.length - i)) x) := ev_sz (fun p hp => h1 p (List.mem_of_mem_drop hp)) h2 (by simp)
    have hp : Sz n (ps[ps.length - 1 - i]'(by omega)) := h1 _ (List.getElem_mem _)
    have e1 := fn_law_timesC_eq L' (Fit.of s1 (by omega)) (Fit.of h2 (by omega))
    have e2 := fn_law_plusC_eq L' (Fit.of (s1.mul h2) (by omega)) (Fit.of hp (by omega))
    have e3 : ev (ps.drop (ps.length - (i + 1))) x = ev (ps.drop (ps.length - i)) x * x + ps[ps.length - 1 - i]'(by omega) := by
      have : ps.length - (i + 1) < ps.length := by omega
      have e : ps.length - (i + 1) = ps.length - 1 - i := by omega
      rw [List.drop_eq_getElem_cons this, ev_cons, show ps.length - (i + 1) + 1 = ps.length - i by omega]
      simp only [e]
    simp [e1, e2]
    exact hJ _ _ ⟨rfl, _, by rw [e3]⟩
  · obtain ⟨rfl, v, rfl⟩ := h
    simp
theorem fn_law_bareC_eq (L : Lh) (q : Rat) : fn_law_bareC [fr q] L = .val (fr (rabs q)) L := by
  apply wpR.eq
  unfold fn_law_bareC d_law_bareC
  refine wp_run rfl ?_
  simp [fr_abs, abs_if]
theorem fn_law_errorC_eq {N M : Nat} {s : Spo} {q : List Rat} (L : Lh) (h : Sz N s.x ∧ Sz N s.y ∧ Sz N s.w) (hq : SzP M q) (hs : (q.length + 4) * (M + 2 * N + 6) + 10 ≤ LIM) : fn_law_errorC [spD s, pol q] L = .val (fr (errS q s)) L := by
  obtain ⟨a1, a2, a3⟩ := h
  have m1 : (q.length + 1) * (M + N + 2) ≤ (q.length + 4) * (M + 2 * N + 6) := Nat.mul_le_mul (by omega) (by omega)
  have m2 : q.length * (M + N + 2) + (2 * N + 6) ≤ (q.length + 4) * (M + 2 * N + 6) := by
    have := Nat.mul_le_mul (show q.length ≤ q.length by omega) (show M + N + 2 ≤ M + 2 * N + 6 by omega)
    rw [Nat.add_mul]; omega
  have se := ev_sz hq a1 (Nat.le_refl q.length)
  have z1 := fn_law_atC_eq L hq a1 (by omega)
  have z2 := fn_law_lessC_eq L (Fit.of a2 (by omega)) (Fit.of se (by omega))
  have z3 := fn_law_timesC_eq L (Fit.of a3 (by omega)) (Fit.of (a2.sub se) (by omega))
  apply wpR.eq
  unfold fn_law_errorC d_law_errorC
  refine wp_run rfl ?_
  simp [z1, z2, z3, errS]
theorem law_degreeC {L : Lh} {n : Nat} {most : Int} {Q : D → Lh → Prop} {E : Str → Lh → Prop} (hp : PotAt L n) (hm0 : 0 ≤ most) (h : ∀ (d : Nat) L', (d : Int) ≤ most → d ≤ 5 → Grow n L L' → PotAt L' n → Q (.int d) L') : wpR (fn_law_degreeC [.loc n, .int most] L) Q E := by
  unfold fn_law_degreeC d_law_degreeC
  refine wp_run rfl ?_
  simp
  refine law_drawC (m := 4) hp (by decide) (by decide) fun a L1 a0 a1 g1 p1 => ?_
  simp
  refine law_drawC (m := 8) p1 (by decide) (by decide) fun b L2 b0 b1 g2 p2 => ?_
  have fin : ∀ (c : Int) L3, 0 ≤ c → c ≤ 5 → Grow n L L3 → PotAt L3 n → wpR (trunc L (.int (if most < c then most else c)) L3) Q E := fun c L3 c0 c5 g p => by
    refine wp_truncG (by simp) g p hp.lt fun L'' g' p' => ?_
    obtain ⟨d, hd⟩ := Int.eq_ofNat_of_zero_le (show 0 ≤ (if most < c then most else c) by split <;> omega)
    rw [hd]
    refine h d L'' ?_ ?_ g' p'
    · split at hd <;> omega
    · split at hd <;> omega
  simp
  refine wp_if (fun z => ?_) (fun z => ?_)
  · simp
    refine law_drawC (m := 2) p2 (by decide) (by decide) fun c L3 c0 c1 g3 p3 => ?_
    simp
    exact fin (4 + c) L3 (by omega) (by omega) ((g1.trans g2).trans g3) p3
  · simp
    exact fin a L2 (by omega) (by omega) (g1.trans g2) p2
theorem numbers_loopC {L0 L : Lh} {n m many : Nat} {way a b S : Int} {v4 v5 : Option D} {P : Po} (hS0 : 0 < S) (hS1 : S ≤ 100000000000) (hb0 : 0 < b) (hb1 : b < 2 ^ 44) (ha : a.natAbs ≤ 10 ^ 12) (hm : many ≤ 12) (hp : PotAt L n) (hn : n < L0.length) (g0 : Grow n L0 L) (hL : L0.length ≤ m) (hLm : L[m]? = some (.lst []))
    (h : ∀ (ps : List Rat) Γ L', L'[m]? = some (.lst (ps.map fr)) → Grow n L0 L' → PotAt L' n → ps.length = many → Rise ps → SzP 44 ps → (∃ v4 v6, Γ = [some (.loc n), some (.int many), some (.int way), some (.loc m), v4, v5, v6, some (.int b), some (.int S)]) → P.nx Γ L') :
    wpS (forL (fun _ => True) (gN 4) (sSeq (sDrop (eMt "list" mAppend (eVar 3) (aCons (eCall fn_law_lowC (aCons (eVar 6) (aCons (eVar 7) aNil))) aNil)))
    (sSet 6 (eOp fAdd (eOp fAdd (eVar 6) (eC (.int 1))) (eCall fn_law_drawC (aCons (eVar 0) (aCons (eVar 8) aNil)))))) (rngD 0 many) [some (.loc n), some (.int many), some (.int way), some (.loc m), v4, v5, some (.int a), some (.int b), some (.int S)] L) P := by
  have hne : m ≠ n := by omega
  refine wp_for (fun k Γ L' => ∃ (ps : List Rat) (at_ : Int), (∃ v4, Γ = [some (.loc n), some (.int many), some (.int way), some (.loc m), v4, v5, some (.int at_), some (.int b), some (.int S)]) ∧ L'[m]? = some (.lst (ps.map fr)) ∧ Grow n L0 L' ∧ PotAt L' n ∧ ps.length = k ∧ Rise ps ∧ SzP 44 ps ∧ at_.natAbs ≤ 10 ^ 12 + k * (10 ^ 11 + 1) ∧ ∀ i, i < ps.length → at0 ps i < Rat.divInt at_ b)
    ⟨[], a, ⟨_, rfl⟩, hLm, g0, hp, rfl, Rise.nil, szP_nil, by omega, by simp⟩ (fun _ _ _ _ _ => trivial) (fun k hk Γ L1 J hJ hI => ?_) (fun Γ L1 hI => ?_)
  · obtain ⟨ps, at_, ⟨v4, rfl⟩, h1, g1, p1, hl, hr, hs, hab, hlt⟩ := hI
    have hk' : k < many := by simpa using hk
    have hbn : b ≠ 0 := by omega
    simp [h1, fn_law_lowC_eq _ hbn]
    rw [mAppend_eq h1 (by simp; omega), map_snoc]
    have h3 := get_set (d := .lst ((ps ++ [Rat.divInt at_ b]).map fr)) h1
    have g3 := g1.set (c := .lst ((ps ++ [Rat.divInt at_ b]).map fr)) hL
    have p3 := p1.set (c := .lst ((ps ++ [Rat.divInt at_ b]).map fr)) hne
    generalize L1.set m (Cell.lst ((ps ++ [Rat.divInt at_ b]).map fr)) = L3 at *
    simp
    refine law_drawC p3 hS0 (by omega) fun d L4 d0 d1 g4 p4 => ?_
    simp
    have kb : k * (10 ^ 11 + 1) ≤ 12 * (10 ^ 11 + 1) := Nat.mul_le_mul (by omega) (Nat.le_refl _)
    refine hJ _ _ ⟨ps ++ [Rat.divInt at_ b], at_ + 1 + d, ⟨_, rfl⟩, g4.keep h3 hne, g3.trans g4, p4, by simp [hl], hr.snoc hlt, hs.snoc (divInt_sz hbn (by omega) (by omega)), ?_, fun i hi => ?_⟩
    · have : (k + 1) * (10 ^ 11 + 1) = k * (10 ^ 11 + 1) + (10 ^ 11 + 1) := Nat.succ_mul _ _
      omega
    · have q : Rat.divInt at_ b < Rat.divInt (at_ + 1 + d) b := divInt_lt hb0 hb0 (Int.mul_lt_mul_of_pos_right (by omega) hb0)
      simp at hi
      by_cases e : i = ps.length
      · subst e; rw [at0_snoc_eq]; exact q
      · rw [at0_snoc_lt (by omega)]
        have := hlt i (by omega)
        grind
  · obtain ⟨ps, at_, ⟨v4, rfl⟩, h1, g1, p1, hl, hr, hs, hab, hlt⟩ := hI
    exact h ps _ L1 h1 g1 p1 (by simpa using hl) hr hs ⟨_, _, rfl⟩
theorem law_valueC {L : Lh} {n many : Nat} {Q : D → Lh → Prop} {E : Str → Lh → Prop} (hp : PotAt L n) (h : ∀ q L', Sz 41 q → Grow n L L' → PotAt L' n → Q (fr q) L') : wpR (fn_law_valueC [.loc n, .int many] L) Q E := by
  have p12 : CPow 10 12 := ⟨by decide, by decide, by decide⟩
  have c2 : CMulX 2 1000000000000 := cmulS (by decide) (by decide)
  unfold fn_law_valueC d_law_valueC
  refine wp_run rfl ?_
  simp
  refine law_drawC (m := 8) hp (by decide) (by decide) fun a L1 a0 a1 g1 p1 => ?_
  simp
  refine wp_if (fun z => ?_) (fun z => ?_)
  · have go : ∀ (c : Int) L2, 0 < c → c ≤ 999999999999 → Grow n L L2 → PotAt L2 n → ∀ X, wpS (sRet (eCall fn_law_lowC (aCons (eOp fAdd (eOp fSub (eCall fn_law_drawC (aCons (eVar 0) (aCons (eOp fSub (eOp fMul (eC (.int 2)) (eOp fPow (eC (.int 10)) (eC (.int 12)))) (eC (.int 1))) aNil))) (eOp fPow (eC (.int 10)) (eC (.int 12)))) (eC (.int 1))) (aCons (eOp fAdd (eC (.int 1)) (eCall fn_law_drawC (aCons (eVar 0) (aCons (eVar 3) aNil)))) aNil))) [some (.loc n), some (.int many), some (.int 7), some (.int c)] L2) ((Po.fn L Q E).seq X) := fun c L2 c0 c1 g p X => by
      simp [p12, c2]
      refine law_drawC (m := 1999999999999) p (by decide) (by decide) fun b L3 b0 b1 g3 p3 => ?_
      simp [p12]
      refine law_drawC (m := c) p3 c0 (by omega) fun e L4 e0 e1 g4 p4 => ?_
      have hc : 1 + e ≠ 0 := by omega
      simp [fn_law_lowC_eq _ hc]
      exact wp_truncG (by simp) ((g.trans g3).trans g4) p4 hp.lt fun L'' g p => h _ _ (divInt_sz hc (by omega) (by omega)) g p
    subst z
    by_cases hm : (many : Int) < 6
    · simp [p12, hm, fIx]
      have := go 999999999999 _ (by decide) (by decide) (g1.trans Grow.app) (p1.app (X := [.lst [.int 99, .int 999999999999]])) (sSeq (sIf (tE (eOp fGt (eVar 2) (eC (.int 4)))) (sRet (eCall fn_law_lowC (aCons (eOp fSub (eCall fn_law_drawC (aCons (eVar 0) (aCons (eC (.int 199)) aNil))) (eC (.int 99))) (aCons (eOp fAdd (eC (.int 1)) (eCall fn_law_drawC (aCons (eVar 0) (aCons (eC (.int 12)) aNil)))) aNil)))) sNext) (sRet (eTup (aCons (eOp fSub (eCall fn_law_drawC (aCons (eVar 0) (aCons (eC (.int 9)) aNil))) (eC (.int 4))) (aCons (eC (.int 1)) aNil)))))
      simp [p12] at this
      exact this
    · simp [p12, hm, fIx]
      have := go 99 _ (by decide) (by decide) (g1.trans Grow.app) (p1.app (X := [.lst [.int 99, .int 999999999999]])) (sSeq (sIf (tE (eOp fGt (eVar 2) (eC (.int 4)))) (sRet (eCall fn_law_lowC (aCons (eOp fSub (eCall fn_law_drawC (aCons (eVar 0) (aCons (eC (.int 199)) aNil))) (eC (.int 99))) (aCons (eOp fAdd (eC (.int 1)) (eCall fn_law_drawC (aCons (eVar 0) (aCons (eC (.int 12)) aNil)))) aNil)))) sNext) (sRet (eTup (aCons (eOp fSub (eCall fn_law_drawC (aCons (eVar 0) (aCons (eC (.int 9)) aNil))) (eC (.int 4))) (aCons (eC (.int 1)) aNil)))))
      simp [p12] at this
      exact this
  · simp
    refine wp_if (fun z2 => ?_) (fun z2 => ?_)
    · simp
      refine law_drawC (m := 199) p1 (by decide) (by decide) fun b L2 b0 b1 g2 p2 => ?_
      simp
      refine law_drawC (m := 12) p2 (by decide) (by decide) fun c L3 c0 c1 g3 p3 => ?_
      have hc : 1 + c ≠ 0 := by omega
      simp [fn_law_lowC_eq _ hc]
      exact wp_truncG (by simp) ((g1.trans g2).trans g3) p3 hp.lt fun L'' g p => h _ _ (divInt_sz hc (by omega) (by omega)) g p
    · simp
      refine law_drawC (m := 9) p1 (by decide) (by decide) fun b L2 b0 b1 g2 p2 => ?_
      simp [fr_irat]
      exact wp_truncG (by simp) (g1.trans g2) p2 hp.lt fun L'' g p => h _ _ (sz_int (by omega) (by omega)) g p
theorem law_weightC {L : Lh} {n many : Nat} {Q : D → Lh → Prop} {E : Str → Lh → Prop} (hp : PotAt L n) (h : ∀ q L', Sz 21 q → 0 < q → Grow n L L' → PotAt L' n → Q (fr q) L') : wpR (fn_law_weightC [.loc n, .int many] L) Q E := by
  have p6 : CPow 10 6 := ⟨by decide, by decide, by decide⟩
  unfold fn_law_weightC d_law_weightC
  refine wp_run rfl ?_
  simp
  refine law_drawC (m := 8) hp (by decide) (by decide) fun a L1 a0 a1 g1 p1 => ?_
  simp
  refine wp_if (fun z => ?_) (fun z => ?_)
  · have e1 : D.tup [.int 1, .int 1] = fr 1 := rfl
    simp [e1]
    exact wp_truncG (by simp) g1 p1 hp.lt fun L'' g p => h _ _ (sz1.mono (by omega)) (by decide) g p
  · have go : ∀ (c : Int) L2, (c = 9 ∨ c = 99 ∨ c = 999999) → Grow n L L2 → PotAt L2 n → wpS (sRet (eCall fn_law_lowC (aCons (eOp fAdd (eC (.int 1)) (eCall fn_law_drawC (aCons (eVar 0) (aCons (eVar 3) aNil)))) (aCons (eOp fAdd (eC (.int 1)) (eCall fn_law_drawC (aCons (eVar 0) (aCons (eVar 3) aNil)))) aNil))) [some (.loc n), some (.int many), some (.int a), some (.int c)] L2) (Po.fn L Q E) := fun c L2 hc g p => by
      simp
      refine law_drawC (m := c) p (by omega) (by omega) fun b L3 b0 b1 g3 p3 => ?_
      simp
      refine law_drawC (m := c) p3 (by omega) (by omega) fun e L4 e0 e1 g4 p4 => ?_
      have hc : 1 + e ≠ 0 := by omega
      simp [fn_law_lowC_eq _ hc]
      exact wp_truncG (by simp) ((g.trans g3).trans g4) p4 hp.lt fun L'' g p => h _ _ (divInt_sz hc (by omega) (by omega)) (rat_pos (by omega) (by omega)) g p
    have h567 : a = 5 ∨ a = 6 ∨ a = 7 := by omega
    have iw : ∀ (A : Cell) (xs : List D), items (.loc (L1.length + 1)) (L1 ++ [A, .lst xs]) = some xs := fun A xs => items_loc (by simp)
    by_cases hm : (many : Int) < 6
    · simp [p6, hm, fIx]
      rcases h567 with rfl | rfl | rfl
      · have := go 9 (L1 ++ [.lst [.int 99, .int 999999], .lst [.int 9, .int 99, .int 999999]]) (by decide) (g1.trans Grow.app) p1.app
        simpa [iw] using this
      · have := go 99 (L1 ++ [.lst [.int 99, .int 999999], .lst [.int 9, .int 99, .int 999999]]) (by decide) (g1.trans Grow.app) p1.app
        simpa [iw] using this
      · have := go 999999 (L1 ++ [.lst [.int 99, .int 999999], .lst [.int 9, .int 99, .int 999999]]) (by decide) (g1.trans Grow.app) p1.app
        simpa [iw] using this
    · simp [p6, hm, fIx]
      rcases h567 with rfl | rfl | rfl
      · have := go 9 (L1 ++ [.lst [.int 99, .int 999999], .lst [.int 9, .int 99, .int 99]]) (by decide) (g1.trans Grow.app) p1.app
        simpa [iw] using this
      · have := go 99 (L1 ++ [.lst [.int 99, .int 999999], .lst [.int 9, .int 99, .int 99]]) (by decide) (g1.trans Grow.app) p1.app
        simpa [iw] using this
      · have := go 99 (L1 ++ [.lst [.int 99, .int 999999], .lst [.int 9, .int 99, .int 99]]) (by decide) (g1.trans Grow.app) p1.app
        simpa [iw] using this
theorem law_numbersC {L : Lh} {n many : Nat} {Q : D → Lh → Prop} {E : Str → Lh → Prop} (hp : PotAt L n) (hm : many ≤ 12)
    (h : ∀ (ps : List Rat) m L', L'[m]? = some (.lst (ps.map fr)) → L.length ≤ m → Grow n L L' → PotAt L' n → ps.length = many → Rise ps → SzP 44 ps → Q (.loc m) L') : wpR (fn_law_numbersC [.loc n, .int many] L) Q E := by
  have hn := hp.lt
  have hne : L.length ≠ n := by omega
  have p12 : CPow 10 12 := ⟨by decide, by decide, by decide⟩
  have p11 : CPow 10 11 := ⟨by decide, by decide, by decide⟩
  have c5 : CMulX 5 100000000000 := cmulS (by decide) (by decide)
  unfold fn_law_numbersC d_law_numbersC
  refine wp_run rfl ?_
  simp
  refine law_drawC (m := 8) hp (by decide) (by decide) fun way L1 w0 w1 g1 p1 => ?_
  have tail : ∀ (ps : List Rat) m L', L'[m]? = some (.lst (ps.map fr)) → L.length ≤ m → Grow n L L' → PotAt L' n → ps.length = many → Rise ps → SzP 44 ps → wpR (trunc L (.loc m) L') Q E := fun ps m L' a b c d e f g => wp_truncGL b a (closeds_frs _ _) c d hn fun m' L'' a' b' c' d' => h ps m' L'' b' a' c' d' e f g
  simp
  refine wp_if (fun h2 => ?_) (fun h2 => ?_)
  · subst h2
    simp [show many ≤ 1000000 by omega]
    have hne1 : L1.length ≠ n := by have := g1.le; omega
    have hl1 := g1.le
    refine wp_for (fun k Γ L' => ∃ ps : List Rat, (∃ v4 v5, Γ = [some (.loc n), some (.int many), some (.int 7), some (.loc L1.length), v4, v5, none, none, none]) ∧ L'[L1.length]? = some (.lst (ps.map fr)) ∧ Grow n L L' ∧ PotAt L' n ∧ ps.length = k ∧ Rise ps ∧ SzP 44 ps ∧ ∀ i, i < ps.length → at0 ps i < (((k : Int) - 4 : Int) : Rat))
      ⟨[], ⟨_, _, rfl⟩, by simp, g1.trans Grow.app, p1.app, rfl, Rise.nil, szP_nil, by simp⟩ (fun _ _ _ _ _ => trivial) (fun k hk Γ L2 J hJ hI => ?_) (fun Γ L2 hI => ?_)
    · obtain ⟨ps, ⟨v4, v5, rfl⟩, h1, g2, p2, hl, hr, hs, hb⟩ := hI
      have hk' : k < many := by simpa using hk
      have fin : ∀ (b u : Int) L4, 0 ≤ b → b < 100000000000 → 0 ≤ u → u < 1 + b → L4[L1.length]? = some (.lst (ps.map fr)) → Grow n L L4 → PotAt L4 n → Rise (ps ++ [Rat.divInt (((k : Int) - 4) * (1 + b) + u) (1 + b)]) ∧ (∀ i, i < (ps ++ [Rat.divInt (((k : Int) - 4) * (1 + b) + u) (1 + b)]).length → at0 (ps ++ [Rat.divInt (((k : Int) - 4) * (1 + b) + u) (1 + b)]) i < ((((k + 1 : Nat) : Int) - 4 : Int) : Rat)) ∧ SzP 44 (ps ++ [Rat.divInt (((k : Int) - 4) * (1 + b) + u) (1 + b)]) := fun b u L4 b0 b1 u0 u1 h4 g4 p4 => by
        have hwb : (((k : Int) - 4) * (1 + b)).natAbs ≤ 8 * 100000000000 := by rw [Int.natAbs_mul]; exact Nat.mul_le_mul (by omega) (by omega)
        obtain ⟨q1, q2⟩ := rat_between (w := (k : Int) - 4) (u := u) (b := 1 + b) (by omega) u0 u1
        have sq := sz_divInt (a := ((k : Int) - 4) * (1 + b) + u) (b := 1 + b) (n := 44) (m := 44) (by omega) (by unfold Bd; omega) (by unfold Bd; omega)
        generalize Rat.divInt (((k : Int) - 4) * (1 + b) + u) (1 + b) = q at *
        have e : (((k : Int) - 4 + 1 : Int) : Rat) = ((((k + 1 : Nat) : Int) - 4 : Int) : Rat) := by congr 1; omega
        rw [e] at q2
        have := rise_step hr hb q1 q2
        exact ⟨this.1, this.2, hs.snoc sq⟩
      by_cases hm6 : (many : Int) < 6
      · simp [p11, hm6, fIx]
        refine law_drawC (m := 100000000000) p2.app (by decide) (by decide) fun b L3 b0 b1 g3 p3 => ?_
        have g23 := (g2.trans Grow.app).trans g3
        have h3 := g3.keep (get_app (X := [.lst [.int 99, .int 100000000000]]) h1) hne1
        have m1 : CMulX ((k : Int) - 4) (1 + b) := cmulS (by omega) (by omega)
        have hb0 : 1 + b ≠ 0 := by omega
        simp [h3, m1]
        refine law_drawC (m := 1 + b) p3 (by omega) (by omega) fun u L4 u0 u1 g4 p4 => ?_
        have h4 := g4.keep h3 hne1
        have f := fin b u L4 b0 (by omega) u0 u1 h4 (g23.trans g4) p4
        simp [fn_law_lowC_eq _ hb0]
        generalize Rat.divInt (((k : Int) - 4) * (1 + b) + u) (1 + b) = q at *
        rw [mAppend_eq h4 (by simp; omega), map_snoc]
        exact hJ _ _ ⟨ps ++ [q], ⟨_, _, rfl⟩, get_set h4, (g23.trans g4).set hl1, p4.set hne1, by simp [hl], f.1, f.2.2, f.2.1⟩
      · simp [p11, hm6, fIx]
        refine law_drawC (m := 99) p2.app (by decide) (by decide) fun b L3 b0 b1 g3 p3 => ?_
        have g23 := (g2.trans Grow.app).trans g3
        have h3 := g3.keep (get_app (X := [.lst [.int 99, .int 100000000000]]) h1) hne1
        have m1 : CMulX ((k : Int) - 4) (1 + b) := cmulS (by omega) (by omega)
        have hb0 : 1 + b ≠ 0 := by omega
        simp [h3, m1]
        refine law_drawC (m := 1 + b) p3 (by omega) (by omega) fun u L4 u0 u1 g4 p4 => ?_
        have h4 := g4.keep h3 hne1
        have f := fin b u L4 b0 (by omega) u0 u1 h4 (g23.trans g4) p4
        simp [fn_law_lowC_eq _ hb0]
        generalize Rat.divInt (((k : Int) - 4) * (1 + b) + u) (1 + b) = q at *
        rw [mAppend_eq h4 (by simp; omega), map_snoc]
        exact hJ _ _ ⟨ps ++ [q], ⟨_, _, rfl⟩, get_set h4, (g23.trans g4).set hl1, p4.set hne1, by simp [hl], f.1, f.2.2, f.2.1⟩
    · obtain ⟨ps, ⟨v4, v5, rfl⟩, h1, g2, p2, hl, hr, hs, hb⟩ := hI
      simp
      exact tail ps _ L2 h1 hl1 g2 p2 (by simpa using hl) hr hs
  · simp
    refine law_drawC (m := 19) p1 (by decide) (by decide) fun a L2 a0 a1 g2 p2 => ?_
    have gg2 := g1.trans g2
    simp
    have fin2 : ∀ (x b S : Int) L3, 0 < S → S ≤ 100000000000 → 0 < b → b < 2 ^ 44 → x.natAbs ≤ 10 ^ 12 → Grow n L L3 → PotAt L3 n → wpS ((sSeq (sSet 3 (eLst aNil))
    (sSeq (sFor (iR1 (aCons (eVar 1) aNil)) (gN 4) (sSeq (sDrop (eMt "list" mAppend (eVar 3) (aCons (eCall fn_law_lowC (aCons (eVar 6) (aCons (eVar 7) aNil))) aNil)))
    (sSet 6 (eOp fAdd (eOp fAdd (eVar 6) (eC (.int 1))) (eCall fn_law_drawC (aCons (eVar 0) (aCons (eVar 8) aNil)))))))
    (sRet (eVar 3)))) [some (.loc n), some (.int many), some (.int way), none, none, none, some (.int x), some (.int b), some (.int S)] L3) (Po.fn L Q E) := fun x b S L3 S0 S1 b0 b1 hx g p => by
      simp [show many ≤ 1000000 by omega]
      refine numbers_loopC (L0 := L) S0 S1 b0 b1 hx hm p.app hn (g.trans Grow.app) g.le get_last fun ps Γ L' h1 g' p' hl hr hs hΓ => ?_
      obtain ⟨v4, v6, rfl⟩ := hΓ
      simp
      exact tail ps _ L' h1 g.le g' p' hl hr hs
    refine wp_if (fun c5' => ?_) (fun c5' => ?_)
    · subst c5'
      simp [-Po.seq_nx]
      refine law_drawC (m := 6) p2 (by decide) (by decide) fun b L3 b0 b1 g3 p3 => ?_
      simp [-Po.seq_nx]
      rw [Po.seq_nx, wp_sSeq]
      simp [-Po.seq_nx]
      exact fin2 (a - 9) (1 + b) 5 L3 (by decide) (by decide) (by omega) (by omega) (by omega) (gg2.trans g3) p3
    · simp [-Po.seq_nx]
      rw [Po.seq_nx, wp_sSeq]
      simp [-Po.seq_nx]
      refine wp_if (fun c6 => ?_) (fun c6 => ?_)
      · subst c6
        simp [-Po.seq_nx, p11]
        refine law_drawC (m := 100000000000) p2 (by decide) (by decide) fun x L3 x0 x1 g3 p3 => ?_
        simp [-Po.seq_nx, p11, c5, p12]
        refine law_drawC (m := 999999999999) p3 (by decide) (by decide) fun b L4 b0 b1 g4 p4 => ?_
        simp [-Po.seq_nx, p11]
        exact fin2 (x - 500000000000) (1 + b) 100000000000 L4 (by decide) (by decide) (by omega) (by omega) (by omega) ((gg2.trans g3).trans g4) p4
      · simp [-Po.seq_nx]
        exact fin2 (a - 9) 1 2 L2 (by decide) (by decide) (by decide) (by decide) (by omega) gg2 p2
theorem law_tableC {L : Lh} {n many : Nat} {Q : D → Lh → Prop} {E : Str → Lh → Prop} (hp : PotAt L n) (hm : many ≤ 12)
    (h : ∀ (t : List Spo) m L', L'[m]? = some (.lst (t.map spD)) → L.length ≤ m → Grow n L L' → PotAt L' n → t.length = many → RiseS t → SzT 44 t → WPos t → Q (.loc m) L') : wpR (fn_law_tableC [.loc n, .int many] L) Q E := by
  have hn := hp.lt
  unfold fn_law_tableC d_law_tableC
  refine wp_run rfl ?_
  simp
  refine law_numbersC hp hm fun xs m L1 h1 hml g1 p1 hl hr hs => ?_
  have hmn : m ≠ n := by omega
  simp [ltR_loc h1]
  refine wp_lcDraw (P := fun k y => ∃ v w, y = spD ⟨at0 xs k, v, w⟩ ∧ Sz 41 v ∧ Sz 21 w ∧ 0 < w) p1 (by simp; omega) (fun L' g => g.keep h1 hmn) (fun k hk ys L2 hy1 hy2 hl2 hL2 g2 p2 => ?_) (fun ys L2 hy1 hy2 hL2 g2 p2 => ?_)
  · have hk' : k < xs.length := by simpa using hk
    simp only [List.getElem_map, ← at0_lt hk']
    simp
    refine law_valueC p2 fun v L3 sv g3 p3 => ?_
    simp
    refine law_weightC p3 fun w L4 sw w0 g4 p4 => ?_
    simp
    exact ⟨⟨v, w, sp_mk _ _ _, sv, sw, w0⟩, g3.trans g4, p4⟩
  · obtain ⟨t, e, ex, ht⟩ := spots_of (xs := xs) (R := fun v w => Sz 41 v ∧ Sz 21 w ∧ 0 < w) (by simpa using hy1) hy2
    subst e
    simp
    refine wp_truncGL g1.le hL2 (closeds_sps _ _) (g1.trans g2) p2 hn fun m' L'' a b c d => h t m' L'' b a c d ?_ (riseS_iff.mp (by rw [ex]; exact hr)) ?_ (fun s hs' => (ht s hs').2.2)
    · have := congrArg List.length ex
      simp at this; omega
    · intro s hs'
      obtain ⟨a1, a2, a3⟩ := ht s hs'
      have : s.x ∈ xs := by rw [← ex]; exact List.mem_map.mpr ⟨s, hs', rfl⟩
      exact ⟨hs _ this, a1.mono (by omega), a2.mono (by omega)⟩
theorem fn_law_sizeC_eq {L : Lh} {N M n : Nat} {t : List Spo} {q : List Rat} (ht : L[n]? = some (.lst (t.map spD))) (h : SzT N t) (hq : SzP M q) (hl : t.length ≤ 100) (hs : (q.length + 4) * (M + 2 * N + 6) + 10 ≤ LIM) : fn_law_sizeC [.loc n, pol q] L = .val (fr (mxN (errN t q) t.length)) L := by
  have e0 : D.tup [.int 0, .int 1] = fr 0 := rfl
  have m2 : q.length * (M + N + 2) + (2 * N + 6) ≤ (q.length + 4) * (M + 2 * N + 6) := by
    have := Nat.mul_le_mul (show q.length ≤ q.length by omega) (show M + N + 2 ≤ M + 2 * N + 6 by omega)
    rw [Nat.add_mul]; omega
  have esz : ∀ k, k < t.length → Sz (q.length * (M + N + 2) + 2 * N + 3) (errN t q k) := fun k hk => by
    rw [errN_at hk]; exact errS_sz (h _ (List.getElem_mem hk)) hq
  apply wpR.eq
  unfold fn_law_sizeC d_law_sizeC
  refine wp_run rfl ?_
  simp [ltR_loc ht]
  refine wp_lcMap (fun k => fr (errN t q k)) (by simp; omega) (fun _ => get_app ht) (fun k hk acc => ?_) ?_
  · have hk' : k < t.length := by simpa using hk
    have z := fun X => fn_law_errorC_eq X (h _ (List.getElem_mem hk')) hq hs
    simp [z, errN_at hk']
  · have e : (t.map spD).length = t.length := by simp
    rw [e]
    have hE := get_last (L := L) (c := .lst ((List.range t.length).map fun k => fr (errN t q k)))
    have pre1 : Pre L (L ++ [Cell.lst ((List.range t.length).map fun k => fr (errN t q k))]) := Pre.new
    generalize L ++ [Cell.lst ((List.range t.length).map fun k => fr (errN t q k))] = L1 at *
    have g : fn_law_greatestC [.loc L.length] L1 = .val (fr (mxN (errN t q) t.length)) L1 := by
      apply wpR.eq
      unfold fn_law_greatestC d_law_greatestC
      refine wp_run rfl ?_
      simp [e0, ltR_loc hE]
      refine wp_for (fun k Γ L' => L' = L1 ∧ ∃ v2, Γ = [some (.loc L.length), some (fr (mxN (errN t q) k)), v2]) ⟨rfl, _, rfl⟩ (fun _ _ _ _ h => by rw [h.1]; exact hE) (fun k hk Γ L' J hJ hI => ?_) (fun Γ L' hI => ?_)
      · obtain ⟨rfl, v2, rfl⟩ := hI
        have hk' : k < t.length := by simpa using hk
        have z4 := fn_law_is_moreC_eq L' (Fit.of (esz k hk').abs (by omega)) (Fit.of (mxN_sz (n := k) fun j hj => esz j (by omega)) (by omega))
        simp [fn_law_bareC_eq, z4]
        refine wp_if (fun c => ?_) (fun c => ?_)
        · have em : mxN (errN t q) (k + 1) = rabs (errN t q k) := by rw [mxN, if_pos c]
          simp [fn_law_bareC_eq]
          exact hJ _ _ ⟨rfl, _, by rw [em]⟩
        · have em : mxN (errN t q) (k + 1) = mxN (errN t q) k := by rw [mxN, if_neg c]
          simp
          exact hJ _ _ ⟨rfl, _, by rw [em]⟩
      · obtain ⟨rfl, v2, rfl⟩ := hI
        simp
    simp [g]
    exact wp_truncP pre1 (by simp) ⟨rfl, rfl⟩
noncomputable def d_law_pickedC : S3 :=
    (sSeq (sSet 3 (eLRg (eVar 1)))
    (sSeq (sWhile (tE (eOp fGt (eCall fLen (aCons (eVar 3) aNil)) (eVar 2))) (sDrop (eMt "list" mPopAt (eVar 3) (aCons (eCall fn_law_drawC (aCons (eVar 0) (aCons (eCall fLen (aCons (eVar 3) aNil)) aNil))) aNil))))
    (sRet (eVar 3))))
noncomputable def fn_law_pickedC : Fn3 := run3 3 4 d_law_pickedC
noncomputable def d_law_is_levelC : S3 :=
    (sSeq (sSet 3 (eVar 2))
    (sSeq (sFor (iLT (eVar 0)) (gN 4) (sSeq (sIf (tE (eOp fNe (eCall fn_law_errorC (aCons (eVar 4) (aCons (eVar 1) aNil))) (eVar 3))) (sRet (eC (.bl false))) sNext)
    (sSet 3 (eTup (aCons (eOp fSub (eC (.int 0)) (eOp fIx (eVar 3) (eC (.int 0)))) (aCons (eOp fIx (eVar 3) (eC (.int 1))) aNil))))))
    (sRet (eOp fLt (eCall fLen (aCons (eVar 1) aNil)) (eCall fLen (aCons (eVar 0) aNil))))))
noncomputable def fn_law_is_levelC : Fn3 := run3 3 5 d_law_is_levelC
theorem mPopAtN {L : Lh} {n k : Nat} {ds : List D} (h : L[n]? = some (.lst ds)) (hk : k < ds.length) (hl : ds.length ≤ 100000) : mPopAt (.loc n) [.int (k : Nat)] L = .val ds[k] (L.set n (.lst (ds.eraseIdx k))) := by
  have e : seqIndex? ((k : Nat) : Int) ds.length = some k := by
    unfold seqIndex?
    have h1 : ¬ ((k : Nat) : Int) < 0 := by omega
    simp [h1]; omega
  have b : -100000 ≤ ((k : Nat) : Int) ∧ ((k : Nat) : Int) ≤ 100000 := by omega
  unfold mPopAt onL
  simp only [h, e]
  rw [if_pos b, List.getElem?_eq_getElem hk]
def nN (k : Nat) : D := .int (k : Nat)
theorem closeds_nN (n : Nat) : ∀ ks : List Nat, closeds n (ks.map nN) = true
  | [] => rfl
  | _ :: ks => by simp [nN, closeds_nN n ks]
theorem erase_map {α β : Type} (f : α → β) : ∀ (l : List α) (k : Nat), (l.map f).eraseIdx k = (l.eraseIdx k).map f
  | [], _ => rfl
  | _ :: _, 0 => rfl
  | a :: l, k + 1 => by simp [List.eraseIdx_cons_succ, erase_map f l k]
theorem law_pickedC {L : Lh} {n many few : Nat} {Q : D → Lh → Prop} {E : Str → Lh → Prop} (hp : PotAt L n) (hm : many ≤ 100) (hf : few ≤ many)
    (h : ∀ (ks : List Nat) m L', ks.length = few → (∀ k ∈ ks, k < many) → ks.Pairwise (· < ·) → L'[m]? = some (.lst (ks.map nN)) → L.length ≤ m → Grow n L L' → PotAt L' n → Q (.loc m) L') : wpR (fn_law_pickedC [.loc n, .int many, .int few] L) Q E := by
  have hn := hp.lt
  have hne : L.length ≠ n := by omega
  unfold fn_law_pickedC d_law_pickedC
  refine wp_run rfl ?_
  simp [wp_eLRg, show (many : Int) ≤ 100000 by omega]
  refine wp_whl (fun k Γ L' => ∃ ks : List Nat, Γ = [some (.loc n), some (.int many), some (.int few), some (.loc L.length)] ∧ L'[L.length]? = some (.lst (ks.map nN)) ∧ ks.length = few + k ∧ few + k ≤ many ∧ (∀ k ∈ ks, k < many) ∧ ks.Pairwise (· < ·) ∧ Grow n L L' ∧ PotAt L' n) (many - few)
    ⟨List.range many, rfl, by simp [rngD_eq]; intro a _; rfl, by simp; omega, by omega, (fun k hk => List.mem_range.mp hk), List.pairwise_lt_range, Grow.app, hp.app⟩ (fun k Γ L1 J hJ hI => ?_)
  obtain ⟨ks, rfl, h1, hl, hkm, hlt, hpw, g1, p1⟩ := hI
  have i1 := items_loc h1
  simp [i1]
  refine wp_wh (fun z => ?_) (fun z => ?_)
  · simp [i1, h1]
    refine law_drawC (m := (ks.length : Nat)) p1 (by omega) (by omega) fun d L2 d0 d1 g2 p2 => ?_
    obtain ⟨d, rfl⟩ := Int.eq_ofNat_of_zero_le d0
    have h2 := g2.keep h1 hne
    have hd : d < ks.length := by omega
    simp
    rw [mPopAtN h2 (by simpa using hd) (by simp; omega), erase_map]
    simp
    refine hJ (k - 1) _ _ (by omega) ⟨ks.eraseIdx d, rfl, get_set h2, ?_, by omega, fun k hk => hlt k ((List.eraseIdx_sublist ks d).subset hk), hpw.sublist (List.eraseIdx_sublist ks d), (g1.trans g2).set (Nat.le_refl _), p2.set hne⟩
    rw [List.length_eraseIdx_of_lt hd]; omega
  · simp
    exact wp_truncGL (Nat.le_refl _) h1 (closeds_nN _ _) g1 p1 hn fun m' L'' a b c d => h ks m' L'' (by omega) hlt hpw b a c d
theorem neg_fr (q : Rat) : D.tup [.int (-q.num), .int q.den] = fr (-q) := fr_neg q
theorem fn_law_is_levelC_eq {L : Lh} {N M n : Nat} {t : List Spo} {q : List Rat} {e : Rat} (ht : L[n]? = some (.lst (t.map spD))) (h : SzT N t) (hq : SzP M q) (hs : (q.length + 4) * (M + 2 * N + 6) + 10 ≤ LIM)
    (he : ∀ k (hk : k < t.length), errS q t[k] = sg k * e) (hl : q.length < t.length) : fn_law_is_levelC [.loc n, pol q, fr e] L = .val (.bl true) L := by
  apply wpR.eq
  unfold fn_law_is_levelC d_law_is_levelC
  refine wp_run rfl ?_
  simp [ltR_loc ht]
  have s0 : sg 0 * e = e := by unfold sg; simp
  refine wp_for (fun k Γ L' => L' = L ∧ ∃ v4, Γ = [some (.loc n), some (pol q), some (fr e), some (fr (sg k * e)), v4]) ⟨rfl, _, by rw [s0]⟩ (fun _ _ _ _ h => by rw [h.1]; exact ht) (fun k hk Γ L' J hJ hI => ?_) (fun Γ L' hI => ?_)
  · obtain ⟨rfl, v4, rfl⟩ := hI
    have hk' : k < t.length := by simpa using hk
    have z := fn_law_errorC_eq L' (h _ (List.getElem_mem hk')) hq hs
    rw [he k hk'] at z
    have e2 : sg (k + 1) * e = - (sg k * e) := by rw [sg_succ]; grind
    simp [z, neg_fr]
    exact hJ _ _ ⟨rfl, _, by rw [e2]⟩
  · obtain ⟨rfl, v4, rfl⟩ := hI
    have i1 := items_loc ht
    simp [i1, hl]
noncomputable def d_law_leversC : S3 :=
    (sSeq (sSet 1 (eLst aNil))
    (sSeq (sFor (iEnB (eVar 0)) (gT 2 (gCons3 (gN 2) (gCons3 (gN 3) gNil3))) (sSeq (sSet 4 (eTup (aCons (eC (.int 1)) (aCons (eC (.int 1)) aNil))))
    (sSeq (sFor (iLT (eOp fAdd (eSl (eVar 0) oNo (oSo (eVar 2))) (eSl (eVar 0) (oSo (eOp fAdd (eVar 2) (eC (.int 1)))) oNo))) (gN 5) (sSet 4 (eCall fn_law_timesC (aCons (eVar 4) (aCons (eCall fn_law_lessC (aCons (eVar 3) (aCons (eVar 5) aNil))) aNil)))))
    (sDrop (eMt "list" mAppend (eVar 1) (aCons (eCall fn_law_byC (aCons (eTup (aCons (eC (.int 1)) (aCons (eC (.int 1)) aNil))) (aCons (eVar 4) aNil))) aNil))))))
    (sRet (eVar 1))))
noncomputable def fn_law_leversC : Fn3 := run3 1 6 d_law_leversC
noncomputable def d_law_boundC : S3 :=
    (sSeq (sAsg (eTup (aCons (eTup (aCons (eC (.int 0)) (aCons (eC (.int 1)) aNil))) (aCons (eTup (aCons (eC (.int 0)) (aCons (eC (.int 1)) aNil))) aNil))) (gT 2 (gCons3 (gN 1) (gCons3 (gN 2) gNil3))))
    (sSeq (sFor (iZp (eCall fn_law_leversC (aCons (eLc (iLT (eVar 0)) (gN 7) tTrue (eOp fIx (eVar 7) (eC (.int 0))) [7]) aNil)) (eVar 0)) (gT 2 (gCons3 (gN 3) (gCons3 (gT 3 (gCons3 (gN 4) (gCons3 (gN 5) (gCons3 (gN 6) gNil3)))) gNil3))) (sSeq (sSet 1 (eCall fn_law_plusC (aCons (eVar 1) (aCons (eCall fn_law_timesC (aCons (eVar 3) (aCons (eVar 5) aNil))) aNil))))
    (sSet 2 (eCall fn_law_plusC (aCons (eVar 2) (aCons (eCall fn_law_byC (aCons (eCall fn_law_bareC (aCons (eVar 3) aNil)) (aCons (eVar 6) aNil))) aNil))))))
    (sRet (eCall fn_law_bareC (aCons (eCall fn_law_byC (aCons (eVar 1) (aCons (eVar 2) aNil))) aNil)))))
noncomputable def fn_law_boundC : Fn3 := run3 1 8 d_law_boundC
theorem div0 : (1 : Rat) / 0 = 0 := by rw [Rat.div_def, Rat.inv_zero, Rat.mul_zero]
/-- products -/
def prdN (f : Nat → Rat) : Nat → Rat
  | 0 => 1
  | n + 1 => prdN f n * f n
theorem prdN_congr {f g : Nat → Rat} : ∀ {n : Nat}, (∀ k, k < n → f k = g k) → prdN f n = prdN g n
  | 0, _ => rfl
  | n + 1, h => by rw [prdN, prdN, prdN_congr fun k hk => h k (by omega), h n (by omega)]
theorem prdN_left (f : Nat → Rat) : ∀ n, prdN f (n + 1) = f 0 * prdN (fun k => f (k + 1)) n
  | 0 => by rw [prdN, prdN, prdN]; grind
  | n + 1 => by rw [prdN, prdN_left f n, prdN]; grind
theorem prdN_rev : ∀ (n : Nat) (f : Nat → Rat), prdN f n = prdN (fun k => f (n - 1 - k)) n
  | 0, _ => rfl
  | n + 1, f => by
    rw [prdN, prdN_rev n f, prdN_left (fun k => f (n + 1 - 1 - k)) n]
    rw [show n + 1 - 1 - 0 = n by omega, prdN_congr (f := fun k => f (n - 1 - k)) (g := fun k => f (n + 1 - 1 - (k + 1))) fun k hk => by congr 1; omega]
    grind
theorem prdN_mul (f g : Nat → Rat) : ∀ n, prdN (fun k => f k * g k) n = prdN f n * prdN g n
  | 0 => by rw [prdN, prdN, prdN]; grind
  | n + 1 => by rw [prdN, prdN, prdN, prdN_mul f g n]; grind
/-- a product without one of its numbers -/
theorem prdN_skip (f : Nat → Rat) : ∀ (n r : Nat), r < n + 1 → prdN f (n + 1) = f r * prdN (fun j => f (if j < r then j else j + 1)) n
  | 0, r, h => by
    obtain rfl : r = 0 := by omega
    rw [prdN, prdN, prdN]; grind
  | n + 1, r, h => by
    by_cases e : r = n + 1
    · subst e
      rw [prdN, prdN_congr (f := fun j => f (if j < n + 1 then j else j + 1)) (g := f) fun k hk => by rw [if_pos hk]]
      grind
    · rw [prdN, prdN_skip f n r (by omega), prdN, if_neg (show ¬ n < r by omega)]; grind
theorem apN_prd (xs : List Rat) (k : Nat) : ∀ n, apN xs k n = prdN (fun j => if j = k then 1 else at0 xs k - at0 xs j) n
  | 0 => rfl
  | n + 1 => by
    rw [apN, prdN, apN_prd xs k n]
    split <;> grind
theorem lev_prd (xs : List Rat) (k : Nat) : lev xs k = 1 / prdN (fun j => if j = k then 1 else at0 xs k - at0 xs j) xs.length := by rw [lev, apN_prd]
def powN (g : Rat) : Nat → Rat
  | 0 => 1
  | n + 1 => powN g n * g
theorem prdN_one {g : Rat} {k : Nat} : ∀ n, prdN (fun j => if j = k then 1 else g) n = powN g (if k < n then n - 1 else n)
  | 0 => by rw [prdN, if_neg (by omega), powN]
  | n + 1 => by
    rw [prdN, prdN_one n]
    by_cases h : n = k
    · subst h; rw [if_pos rfl, if_neg (by omega), if_pos (by omega)]; simp; try grind
    · rw [if_neg h]
      by_cases h2 : k < n
      · obtain ⟨m, rfl⟩ : ∃ m, n = m + 1 := ⟨n - 1, by omega⟩
        rw [if_pos h2, if_pos (by omega)]; rfl
      · rw [if_neg h2, if_neg (by omega), powN]
theorem powN_ne {g : Rat} (h : g ≠ 0) : ∀ n, powN g n ≠ 0
  | 0 => by rw [powN]; decide
  | n + 1 => by rw [powN]; exact fun z => (Rat.mul_eq_zero.mp z).elim (powN_ne h n) h
/-- levers of numbers moved -/
theorem lev_moved {xs : List Rat} {g h : Rat} {k : Nat} (hg : g ≠ 0) (hk : k < xs.length) : lev (xs.map fun x => g * x + h) k = lev xs k / powN g (xs.length - 1) := by
  have a : ∀ j, j < xs.length → at0 (xs.map fun x => g * x + h) j = g * at0 xs j + h := fun j hj => by
    rw [at0_lt (by simpa using hj), List.getElem_map, at0_lt hj]
  rw [lev_prd, lev_prd, List.length_map]
  have e : prdN (fun j => if j = k then 1 else at0 (xs.map fun x => g * x + h) k - at0 (xs.map fun x => g * x + h) j) xs.length = prdN (fun j => (if j = k then 1 else g) * (if j = k then 1 else at0 xs k - at0 xs j)) xs.length := prdN_congr fun j hj => by
    rw [a k hk, a j hj]; split <;> grind
  rw [e, prdN_mul, prdN_one, if_pos hk]
  have := powN_ne hg (xs.length - 1)
  generalize powN g (xs.length - 1) = p at *
  generalize prdN (fun j => if j = k then 1 else at0 xs k - at0 xs j) xs.length = q at *
  by_cases hq : q = 0
  · subst hq; rw [div0]; grind
  · grind
/-- levers of numbers turned about -/
theorem lev_rev {xs : List Rat} {k : Nat} (hk : k < xs.length) : lev xs.reverse k = lev xs (xs.length - 1 - k) := by
  have a : ∀ j, j < xs.length → at0 xs.reverse j = at0 xs (xs.length - 1 - j) := fun j hj => by
    rw [at0_lt (by simpa using hj), List.getElem_reverse, at0_lt (by omega)]
  rw [lev_prd, lev_prd, List.length_reverse, prdN_rev]
  congr 1
  refine prdN_congr fun j hj => ?_
  rw [a k hk, a _ (by omega), show xs.length - 1 - (xs.length - 1 - j) = j by omega]
  by_cases h : j = xs.length - 1 - k
  · rw [if_pos h, if_pos (by omega)]
  · rw [if_neg h, if_neg (by omega)]
/-- levers of all numbers but one -/
theorem lev_without {xs : List Rat} {r k : Nat} (hd : Dis xs) (hr : r < xs.length) (hk : k + 1 < xs.length) : lev (xs.eraseIdx r) k = lev xs (if k < r then k else k + 1) * (at0 xs (if k < r then k else k + 1) - at0 xs r) := by
  have a : ∀ j, j + 1 < xs.length → at0 (xs.eraseIdx r) j = at0 xs (if j < r then j else j + 1) := fun j hj => by
    rw [at0_lt (by rw [List.length_eraseIdx_of_lt hr]; omega), List.getElem_eraseIdx]
    split <;> rw [at0_lt (by omega)]
  obtain ⟨n, hn⟩ : ∃ n, xs.length = n + 1 := ⟨xs.length - 1, by omega⟩
  rw [lev_prd, lev_prd, List.length_eraseIdx_of_lt hr, hn, prdN_skip _ n r (by omega)]
  generalize hk2 : (if k < r then k else k + 1) = k2
  have hkr : k2 ≠ r := by rw [← hk2]; split <;> omega
  have hk2l : k2 < xs.length := by rw [← hk2]; split <;> omega
  have hne : at0 xs k2 - at0 xs r ≠ 0 := by
    have := hd k2 r hk2l hr hkr
    grind
  rw [if_neg (Ne.symm hkr), show n + 1 - 1 = n by omega]
  have e : prdN (fun j => if j = k then 1 else at0 (xs.eraseIdx r) k - at0 (xs.eraseIdx r) j) n = prdN (fun j => if (if j < r then j else j + 1) = k2 then 1 else at0 xs k2 - at0 xs (if j < r then j else j + 1)) n := prdN_congr fun j hj => by
    rw [a k hk, a j (by omega), hk2]
    by_cases h : j = k
    · have he2 : (if j < r then j else j + 1) = k2 := by rw [h, hk2]
      rw [if_pos h, if_pos he2]
    · have hne2 : (if j < r then j else j + 1) ≠ k2 := by rw [← hk2]; split <;> split <;> omega
      rw [if_neg h, if_neg hne2]
  rw [e]
  generalize prdN (fun j => if (if j < r then j else j + 1) = k2 then 1 else at0 xs k2 - at0 xs (if j < r then j else j + 1)) n = q at *
  generalize at0 xs k2 - at0 xs r = d at *
  by_cases hq : q = 0
  · subst hq; rw [div0]; grind
  · grind
theorem rabs_nonneg' (q : Rat) : 0 ≤ rabs q := by unfold rabs; split <;> grind
theorem mxN_sub {t r : List Spo} {q : List Rat} (hm : ∀ s ∈ r, s ∈ t) : mxN (errN r q) r.length ≤ mxN (errN t q) t.length := by
  refine mxN_lub (mxN_nonneg _ _) fun k hk => ?_
  obtain ⟨j, hj, e⟩ := List.getElem_of_mem (hm _ (List.getElem_mem hk))
  rw [errN_at hk, ← e, ← errN_at hj]
  exact mxN_le _ _ _ hj
/-- a reference whose level is even at the table -/
def Evn (t r : List Spo) : Prop := ∀ s ∈ t, rabs (errS (lvPoly r) s) ≤ rabs (firstE r)
theorem evn_size {t r : List Spo} {m : Nat} (hr : RefOf t m r) (he : Evn t r) (wt : WPos t) (h2 : 2 ≤ m) : mxN (errN t (lvPoly r)) t.length = rabs (firstE r) := by
  have hl := hr.len
  have h1 : mxN (errN t (lvPoly r)) t.length ≤ rabs (firstE r) := mxN_lub (rabs_nonneg' _) fun k hk => by
    rw [errN_at hk]; exact he _ (List.getElem_mem hk)
  have h3 := level_size (riseS_iff.mpr hr.rise) (hr.w wt) (by omega)
  have h4 := mxN_sub (q := lvPoly r) hr.mem
  grind
/-- no other one's is less, and none's as little -/
theorem ref_beneath {t r : List Spo} {m : Nat} {q : List Rat} (hr : RefOf t m r) (wt : WPos t) (h2 : 2 ≤ m) (hq : q.length ≤ m - 1) :
    rabs (firstE r) ≤ mxN (errN t q) t.length ∧ (mxN (errN t q) t.length ≤ rabs (firstE r) → trim q = lvPoly r) := by
  have hl := hr.len
  obtain ⟨b1, b2⟩ := bound_beneath (q := q) (riseS_iff.mpr hr.rise) (hr.w wt) (by omega) (by omega)
  have h4 := mxN_sub (q := q) hr.mem
  exact ⟨by grind, fun h => b2 (by grind)⟩
/-- two even ones are one -/
theorem evn_one {t r r' : List Spo} {m : Nat} (hr : RefOf t m r) (he : Evn t r) (hr' : RefOf t m r') (he' : Evn t r') (wt : WPos t) (h2 : 2 ≤ m) : lvPoly r = lvPoly r' ∧ rabs (firstE r) = rabs (firstE r') := by
  have a := evn_size hr he wt h2
  have a' := evn_size hr' he' wt h2
  have l := lvPoly_len r
  have l' := lvPoly_len r'
  have e := hr.len
  have e' := hr'.len
  have b := ref_beneath (q := lvPoly r') hr wt h2 (by omega)
  have b' := ref_beneath (q := lvPoly r) hr' wt h2 (by omega)
  have c : rabs (firstE r) = rabs (firstE r') := by grind
  refine ⟨?_, c⟩
  have d := b.2 (by grind)
  have tr : trim (lvPoly r') = lvPoly r' := trim_thr _ _
  rw [← d, tr]
theorem near_size {t r : List Spo} {m : Nat} {rs : List (List Spo)} (hn : Near t m rs r) (wt : WPos t) (h2 : 2 ≤ m) : mxN (errN t (lvPoly r)) t.length = rabs (firstE r) := evn_size hn.ref hn.even wt h2
theorem near_beneath {t r : List Spo} {m : Nat} {rs : List (List Spo)} {q : List Rat} (hn : Near t m rs r) (wt : WPos t) (h2 : 2 ≤ m) (hq : q.length ≤ m - 1) :
    rabs (firstE r) ≤ mxN (errN t q) t.length ∧ (mxN (errN t q) t.length ≤ rabs (firstE r) → trim q = lvPoly r) := ref_beneath hn.ref wt h2 hq
theorem RefOf.up {m : Nat} {t r : List Spo} {s : Spo} (h : RefOf t m r) (ht : RiseS t) (wt : WPos t) (h2 : 2 ≤ m) (hst : s ∈ t) (hb : rabs (firstE r) < rabs (errS (lvPoly r) s)) : RefOf t m (nextR r s) ∧ rabs (firstE r) < rabs (firstE (nextR r s)) := by
  have hw := h.w wt
  have hR := riseS_iff.mpr h.rise
  have hl := h.len
  have he := fun k (hk : k < r.length) => errS_level hR hw (by omega) hk
  have hx : ∀ q ∈ r, q.x ≠ s.x := fun q hq e => by
    have same : q = s := by
      obtain ⟨i, hi, rfl⟩ := List.getElem_of_mem (h.mem q hq)
      obtain ⟨j, hj, rfl⟩ := List.getElem_of_mem hst
      have pw := List.pairwise_iff_getElem.mp ht
      rcases Nat.lt_trichotomy i j with c | c | c
      · have := pw i j hi hj c; rw [e] at this; exact absurd this Rat.lt_irrefl
      · subst c; rfl
      · have := pw j i hj hi c; rw [e] at this; exact absurd this Rat.lt_irrefl
    subst same
    obtain ⟨k, hk, rfl⟩ := List.getElem_of_mem hq
    rw [he k hk] at hb
    have : rabs (sg k * firstE r) = rabs (firstE r) := by
      rcases sg_cases k with c | c <;> rw [c]
      · congr 1; grind
      · rw [show (-1 : Rat) * firstE r = -firstE r by grind, rabs_neg]
    rw [this] at hb
    exact absurd hb Rat.lt_irrefl
  have w := withSpot_right (p := lvPoly r) (h := firstE r) (s := s) h.rise hw (wt s hst) (by omega) (lvPoly_len r) he hb hx
  refine ⟨⟨by rw [nextR, w.1, hl], w.2.1, fun q hq => ?_⟩, w.2.2.2⟩
  rcases w.2.2.1 q hq with c | c
  · rw [c]; exact hst
  · exact h.mem q c
theorem erase_mapR {xs : List Rat} {r : Nat} : (xs.map fr).take r ++ (xs.map fr).drop (r + 1) = (xs.eraseIdx r).map fr := by
  rw [List.eraseIdx_eq_take_drop_succ, List.map_append, List.map_take, List.map_drop]
theorem prdN_sz {b : Nat} {f : Nat → Rat} : ∀ {n : Nat}, (∀ k, k < n → Sz b (f k)) → Sz (n * b + 1) (prdN f n)
  | 0, _ => by rw [prdN]; exact sz1.mono (by omega)
  | n + 1, h => by
    rw [prdN, Nat.succ_mul]
    exact ((prdN_sz fun k hk => h k (by omega)).mul (h n (by omega))).mono (by omega)
theorem lev_erase {xs : List Rat} {k : Nat} (hk : k < xs.length) : lev xs k = 1 / prdN (fun j => at0 xs k - at0 (xs.eraseIdx k) j) (xs.length - 1) := by
  obtain ⟨n, hn⟩ : ∃ n, xs.length = n + 1 := ⟨xs.length - 1, by omega⟩
  rw [lev_prd, hn, prdN_skip _ n k (by omega), if_pos rfl, show n + 1 - 1 = n by omega]
  congr 1
  rw [show ∀ q : Rat, 1 * q = q from fun q => by grind]
  refine prdN_congr fun j hj => ?_
  have hj2 : j < (xs.eraseIdx k).length := by rw [List.length_eraseIdx_of_lt hk]; omega
  rw [at0_lt hj2, List.getElem_eraseIdx]
  by_cases h : j < k
  · rw [if_pos h, if_neg (by omega), dif_pos h, at0_lt (show j < xs.length by omega)]
  · rw [if_neg h, if_neg (by omega), dif_neg h, at0_lt (show j + 1 < xs.length by omega)]
theorem fn_law_leversC_eq {L : Lh} {N n : Nat} {xs : List Rat} (hx : L[n]? = some (.lst (xs.map fr))) (h : SzP N xs) (hd : Dis xs) (hl : xs.length ≤ 8) (hs : 100 * (N + 10) ≤ LIM) : fn_law_leversC [.loc n] L = .val (.loc L.length) (L ++ [.lst ((levs xs).map fr)]) := by
  have e1 : D.tup [.int 1, .int 1] = fr 1 := rfl
  have key : wpR (fn_law_leversC [.loc n] L) (fun d L' => d = .loc L.length ∧ L' = L ++ [.lst ((levs xs).map fr)]) noE := by
    unfold fn_law_leversC d_law_leversC
    refine wp_run rfl ?_
    have hx1 := get_app (X := [.lst []]) hx
    have pre0 : Pre L (L ++ [Cell.lst []]) := Pre.new
    simp [enR_loc hx1]
    refine wp_for (fun k Γ L' => (∃ v2 v3 v4 v5, Γ = [some (.loc n), some (.loc L.length), v2, v3, v4, v5]) ∧ L'[L.length]? = some (.lst (((List.range k).map (lev xs)).map fr)) ∧ Pre L L') ⟨⟨_, _, _, _, rfl⟩, by simp, pre0⟩ (fun _ _ _ _ q => q.2.2.get hx) (fun k hk Γ L1 J hJ hI => ?_) (fun Γ L1 hI => ?_)
    · obtain ⟨⟨v2, v3, v4, v5, rfl⟩, h1, pre1⟩ := hI
      have hk' : k < xs.length := by simpa using hk
      simp only [enumD_get, List.getElem_map, ← at0_lt hk']
      have hx2 := pre1.get hx
      have s1 := sliceD_loc (a := none) (b := some (k : Int)) hx2
      rw [cut_to] at s1
      simp [e1, s1, -List.map_take]
      have hA := get_last (L := L1) (c := .lst ((xs.map fr).take k))
      have hx3 := get_app (X := [.lst ((xs.map fr).take k)]) hx2
      have h13 := get_app (X := [.lst ((xs.map fr).take k)]) h1
      have pre2 := pre1.app (X := [.lst ((xs.map fr).take k)])
      generalize hL2 : L1 ++ [Cell.lst ((xs.map fr).take k)] = L2 at *
      have s2 := sliceD_from (k + 1) hx3
      rw [show ((k + 1 : Nat) : Int) = (k : Int) + 1 by omega] at s2
      simp [s2, -List.map_drop]
      have hA3 := get_app (X := [.lst ((xs.map fr).drop (k + 1))]) hA
      have hB3 := get_last (L := L2) (c := .lst ((xs.map fr).drop (k + 1)))
      have h14 := get_app (X := [.lst ((xs.map fr).drop (k + 1))]) h13
      have pre3 := pre2.app (X := [.lst ((xs.map fr).drop (k + 1))])
      generalize hL3 : L2 ++ [Cell.lst ((xs.map fr).drop (k + 1))] = L3 at *
      rw [fAdd_lst hA3 hB3 (by simp; omega), erase_mapR]
      have hC := get_last (L := L3) (c := .lst ((xs.eraseIdx k).map fr))
      have h15 := get_app (X := [.lst ((xs.eraseIdx k).map fr)]) h14
      have pre4 := pre3.app (X := [.lst ((xs.eraseIdx k).map fr)])
      generalize hL4 : L3 ++ [Cell.lst ((xs.eraseIdx k).map fr)] = L4 at *
      have le := lev_erase hk'
      have el : (xs.eraseIdx k).length = xs.length - 1 := List.length_eraseIdx_of_lt hk'
      have es : SzP N (xs.eraseIdx k) := fun y hy => h y (List.mem_of_mem_eraseIdx hy)
      have hne : prdN (fun j => at0 xs k - at0 (xs.eraseIdx k) j) (xs.length - 1) ≠ 0 := fun z => by
        have h0 := apN_ne hd hk' xs.length (Nat.le_refl _)
        rw [z, div0] at le
        unfold lev at le
        have e : 1 / apN xs k xs.length * apN xs k xs.length = 1 := by grind
        rw [le] at e; grind
      have sz : ∀ j, Sz (2 * N + 3) (at0 xs k - at0 (xs.eraseIdx k) j) := fun j => ((sz_at0 h k).sub (sz_at0 es j)).mono (by omega)
      have szp : ∀ i, i ≤ xs.length - 1 → Sz (7 * (2 * N + 3) + 1) (prdN (fun j => at0 xs k - at0 (xs.eraseIdx k) j) i) := fun i hi => (prdN_sz fun j _ => sz j).mono (by
        have := Nat.mul_le_mul (show i ≤ 7 by omega) (Nat.le_refl (2 * N + 3)); omega)
      generalize hys : xs.eraseIdx k = ys at *
      simp [ltR_loc hC]
      refine wp_for (fun i Γ L' => L' = L4 ∧ ∃ v5, Γ = [some (.loc n), some (.loc L.length), some (.int k), some (fr (at0 xs k)), some (fr (prdN (fun j => at0 xs k - at0 ys j) i)), v5]) ⟨rfl, _, rfl⟩ (fun _ _ _ _ q => by rw [q.1]; exact hC) (fun i hi Γ L' J2 hJ2 hI => ?_) (fun Γ L' hI => ?_)
      · obtain ⟨rfl, v5, rfl⟩ := hI
        have hi' : i < ys.length := by simpa using hi
        simp only [List.getElem_map, ← at0_lt hi']
        have z1 := fn_law_lessC_eq L' (p := at0 xs k) (q := at0 ys i) (Fit.of (sz_at0 h k) (by omega)) (Fit.of (sz_at0 es i) (by omega))
        have z2 := fn_law_timesC_eq L' (Fit.of (szp i (by omega)) (by omega)) (Fit.of (sz i) (by omega))
        simp [z1, z2]
        exact hJ2 _ _ ⟨rfl, _, rfl⟩
      · obtain ⟨rfl, v5, rfl⟩ := hI
        have e : (ys.map fr).length = xs.length - 1 := by rw [List.length_map, el]
        rw [e]
        have z := fn_law_byC_eq L' fit1 (Fit.of (szp (xs.length - 1) (Nat.le_refl _)) (by omega)) hne
        simp [h15, e1, z]
        rw [mAppend_eq h15 (by simp; omega), ← le]
        refine hJ _ _ ⟨⟨_, _, _, _, rfl⟩, ?_, pre4.set (Nat.le_refl _)⟩
        rw [get_set h15, List.range_succ]; simp
    · obtain ⟨⟨v2, v3, v4, v5, rfl⟩, h1, pre1⟩ := hI
      have e : (enumD (xs.map fr)).length = xs.length := by simp
      rw [e] at h1
      simp
      exact wp_truncPL pre1 (Nat.le_refl _) h1 (closeds_frs _ _) ⟨rfl, by rfl⟩
  obtain ⟨d, L', e, rfl, rfl⟩ := key.ex
  exact e
theorem fn_law_boundC_eq {L : Lh} {N n : Nat} {r : List Spo} (hr : L[n]? = some (.lst (r.map spD))) (h : SzT N r) (hw : WPos r) (hd : Dis (xsO r)) (hl : r.length ≤ 8) (h0 : 0 < r.length) (hs : 100000 * N + 400000 ≤ LIM) : fn_law_boundC [.loc n] L = .val (fr (rabs (firstE r))) L := by
  have e0 : D.tup [.int 0, .int 1] = fr 0 := rfl
  have key : wpR (fn_law_boundC [.loc n] L) (fun d L' => d = fr (rabs (firstE r)) ∧ L' = L) noE := by
    unfold fn_law_boundC d_law_boundC
    refine wp_run rfl ?_
    simp [e0, ltR_loc hr]
    refine wp_lcMap (fun k => fr (at0 (xsO r) k)) (by simp; omega) (fun _ => get_app hr) (fun k hk acc => ?_) ?_
    · have hk' : k < r.length := by simpa using hk
      simp [xsO_at hk']
    · have e : (r.map spD).length = r.length := by simp
      rw [e, range_frs (xsO r) (by simp)]
      have hX := get_last (L := L) (c := .lst ((xsO r).map fr))
      have hr1 := get_app (X := [.lst ((xsO r).map fr)]) hr
      have pre1 : Pre L (L ++ [Cell.lst ((xsO r).map fr)]) := Pre.new
      generalize hL1 : L ++ [Cell.lst ((xsO r).map fr)] = L1 at *
      have lv := fn_law_leversC_eq hX h.xs hd (by simp; omega) (by omega)
      simp only [kA1, kA2, kCall]
      simp
      simp only [lv]
      have hV := get_last (L := L1) (c := .lst ((levs (xsO r)).map fr))
      have hr2 := get_app (X := [.lst ((levs (xsO r)).map fr)]) hr1
      have pre2 := pre1.app (X := [.lst ((levs (xsO r)).map fr)])
      generalize hL2 : L1 ++ [Cell.lst ((levs (xsO r)).map fr)] = L2 at *
      have ll : (levs (xsO r)).length = r.length := by rw [levs_len]; simp
      simp [zpR_loc hV hr2, -List.map_map]
      refine wp_for (fun k Γ L' => L' = L2 ∧ ∃ v3 v4 v5 v6, Γ = [some (.loc n), some (fr (wsN (xsO r) (ysO r) k)), some (fr (sumN (rmN r) k)), v3, v4, v5, v6, none]) ⟨rfl, _, _, _, _, rfl⟩ (fun _ _ _ _ q => by rw [q.1]; exact ⟨hV, hr2⟩) (fun k hk Γ L' J hJ hI => ?_) (fun Γ L' hI => ?_)
      · obtain ⟨rfl, v3, v4, v5, v6, rfl⟩ := hI
        have hk' : k < r.length := by simp at hk; omega
        have elv : (levs (xsO r))[k]'(by omega) = lev (xsO r) k := by simp [levs]
        simp only [zipD_get, List.getElem_map, elv]
        have sl : Sz (16 * N + 30) (lev (xsO r) k) := (lev_sz h.xs hd (k := k) (by simpa using hk')).mono (by
          have := Nat.mul_le_mul hl (Nat.le_refl (2 * N + 3))
          rw [xsO_len]; omega)
        obtain ⟨a1, a2, a3⟩ := h _ (List.getElem_mem hk')
        have wn := w_ne hw hk'
        have s1 := wsNt_sz h hd hl (j := k) (by omega)
        have s2 := room_sz h hw hd hl (j := k) (by omega)
        have z1 := fn_law_timesC_eq L' (p := lev (xsO r) k) (q := r[k].y) (Fit.of sl (by omega)) (Fit.of a2 (by omega))
        have z2 := fn_law_plusC_eq L' (p := wsN (xsO r) (ysO r) k) (q := lev (xsO r) k * r[k].y) (Fit.of s1 (by omega)) (Fit.of (sl.mul a2) (by omega))
        rw [wsO_at hk'] at wn
        have z3 := fn_law_byC_eq L' (p := rabs (lev (xsO r) k)) (q := r[k].w) (Fit.of sl.abs (by omega)) (Fit.of a3 (by omega)) wn
        have z4 := fn_law_plusC_eq L' (p := sumN (rmN r) k) (q := rabs (lev (xsO r) k) / r[k].w) (Fit.of s2 (by omega)) (Fit.of (sl.abs.div a3 wn) (by omega))
        simp [z1, z2, z3, z4, fn_law_bareC_eq]
        have ew : wsN (xsO r) (ysO r) (k + 1) = wsN (xsO r) (ysO r) k + lev (xsO r) k * r[k].y := by rw [wsN, ysO_at hk']
        have es : sumN (rmN r) (k + 1) = sumN (rmN r) k + rabs (lev (xsO r) k) / r[k].w := by rw [sumN, rmN, wsO_at hk']
        exact hJ _ _ ⟨rfl, _, _, _, _, by rw [ew, es]⟩
      · obtain ⟨rfl, v3, v4, v5, v6, rfl⟩ := hI
        have e : (zipD ((levs (xsO r)).map fr) (r.map spD)).length = r.length := by simp [ll]
        rw [e]
        have s1 := wsNt_sz h hd hl (j := r.length) (Nat.le_refl _)
        have s2 := room_sz h hw hd hl (j := r.length) (Nat.le_refl _)
        have rp := room_pos hw hd h0
        have rn : sumN (rmN r) r.length ≠ 0 := fun z => by
          have : room r = 0 := z
          rw [this] at rp; exact absurd rp Rat.lt_irrefl
        have z1 := fn_law_byC_eq L' (Fit.of s1 (by omega)) (Fit.of s2 (by omega)) rn
        have e2 : rabs (wsN (xsO r) (ysO r) r.length / sumN (rmN r) r.length) = rabs (firstE r) := by
          have : wsN (xsO r) (ysO r) r.length = tilt r := by unfold tilt wsum; rw [xsO_len]
          rw [this]
          unfold firstE
          split
          · rfl
          · rw [rabs_neg]; rfl
        simp [z1, fn_law_bareC_eq, e2]
        exact wp_truncP pre2 (by simp) ⟨rfl, rfl⟩
  obtain ⟨d, L', e, rfl, rfl⟩ := key.ex
  exact e
/-- a comprehension that only reads and picks -/
theorem wp_lcFil {α : Type} {chk : Lh → Prop} {g : Tg3} {t : T3} {e : E3} {Γ0 : G3} {as : List α} {d : α → D} (p : α → Bool) {Q : D → Lh → Prop} {E : Str → Lh → Prop} {L : Lh} (hl : as.length ≤ 100000) (hc : ∀ acc, chk (L ++ [.lst acc]))
    (step : ∀ a ∈ as, ∀ acc, wpS (g (d a) Γ0 (L ++ [.lst acc])) ⟨fun Γ1 L1 => wpR (t Γ1 L1) (fun b L2 => b = p a ∧ L2 = L ++ [.lst acc] ∧ wpR (e Γ1 L2) (fun y L3 => y = d a ∧ L3 = L ++ [.lst acc]) noE) noE, fun _ _ => False, fun _ _ => False, fun _ _ => False, fun _ _ _ => False⟩)
    (hn : Q (.loc L.length) (L ++ [.lst ((as.filter p).map d)])) : wpR (lcL chk g t e Γ0 L.length (as.map d) (L ++ [.lst []])) Q E := by
  refine wp_lc (fun i ys L' => ys = ((as.take i).filter p).map d ∧ L' = L ++ [.lst ys]) ⟨by simp, rfl⟩ get_last (fun i ys L' hi hL h => by rw [h.2]; exact hc _) (fun i hi ys L' hL h => ?_) (fun ys L' hL h => ?_)
  · obtain ⟨h1, rfl⟩ := h
    have hi' : i < as.length := by simpa using hi
    have s := step as[i] (List.getElem_mem hi') ys
    have ea : (as.map d)[i] = d as[i] := List.getElem_map d
    have tk : as.take (i + 1) = as.take i ++ [as[i]] := by rw [List.take_succ_eq_append_getElem hi']
    have yl : ys.length ≤ 100000 := by
      rw [h1, List.length_map]
      have a := List.length_filter_le p (as.take i)
      have b : (as.take i).length ≤ as.length := by rw [List.length_take]; omega
      omega
    rw [ea]
    generalize as[i] = a at *
    cases hg : g (d a) Γ0 (L ++ [.lst ys]) with
    | nx Γ1 L1 =>
      rw [hg] at s
      have s : wpR (t Γ1 L1) (fun b L2 => b = p a ∧ L2 = L ++ [.lst ys] ∧ wpR (e Γ1 L2) (fun y L3 => y = d a ∧ L3 = L ++ [.lst ys]) noE) noE := s
      simp only [wpS_nx]
      refine s.mono (fun b L2 q => ?_) (fun _ _ q => q)
      obtain ⟨rfl, rfl, q⟩ := q
      by_cases hp : p a = true
      · rw [if_pos hp]
        refine q.mono (fun y L3 q => ?_) (fun _ _ q => q)
        obtain ⟨rfl, rfl⟩ := q
        refine ⟨get_last, yl, ?_, by rw [set_last]⟩
        rw [tk, List.filter_append, List.map_append, ← h1]; simp [hp]
      · rw [if_neg hp]
        refine ⟨get_last, ?_, rfl⟩
        rw [tk, List.filter_append, List.map_append, ← h1]; simp [hp]
    | exn c Γ1 L1 => rw [hg] at s; exact s.elim
    | ret _ _ => rw [hg] at s; exact s.elim
    | brk _ _ => rw [hg] at s; exact s.elim
    | ct _ _ => rw [hg] at s; exact s.elim
    | stuck => rw [hg] at s; exact s.elim
  · obtain ⟨h1, rfl⟩ := h
    rw [h1]; simp only [List.length_map, List.take_length]; exact hn
noncomputable def d_moved : S3 :=
    (sRet (eCall fn_table_of (aCons (eLc (iLT (eVar 0)) (gT 3 (gCons3 (gN 3) (gCons3 (gN 4) (gCons3 (gN 5) gNil3)))) tTrue (eTup (aCons (eCall fn_plus (aCons (eCall fn_times (aCons (eVar 1) (aCons (eVar 3) aNil))) (aCons (eVar 2) aNil))) (aCons (eVar 4) (aCons (eVar 5) aNil)))) [3, 4, 5]) aNil)))
noncomputable def fn_moved : Fn3 := run3 3 6 d_moved
noncomputable def d_scaled : S3 :=
    (sRet (eCall fn_table_of (aCons (eLc (iLT (eVar 0)) (gT 3 (gCons3 (gN 2) (gCons3 (gN 3) (gCons3 (gN 4) gNil3)))) tTrue (eTup (aCons (eVar 2) (aCons (eCall fn_times (aCons (eVar 1) (aCons (eVar 3) aNil))) (aCons (eVar 4) aNil)))) [2, 3, 4]) aNil)))
noncomputable def fn_scaled : Fn3 := run3 2 5 d_scaled
noncomputable def d_bent : S3 :=
    (sRet (eCall fn_table_of (aCons (eLc (iLT (eVar 0)) (gT 3 (gCons3 (gN 2) (gCons3 (gN 3) (gCons3 (gN 4) gNil3)))) tTrue (eTup (aCons (eVar 2) (aCons (eCall fn_plus (aCons (eVar 3) (aCons (eCall fn_worth (aCons (eVar 1) (aCons (eVar 2) aNil))) aNil))) (aCons (eVar 4) aNil)))) [2, 3, 4]) aNil)))
noncomputable def fn_bent : Fn3 := run3 2 5 d_bent
noncomputable def d_reweighed : S3 :=
    (sRet (eCall fn_table_of (aCons (eLc (iLT (eVar 0)) (gT 3 (gCons3 (gN 2) (gCons3 (gN 3) (gCons3 (gN 4) gNil3)))) tTrue (eTup (aCons (eVar 2) (aCons (eVar 3) (aCons (eCall fn_times (aCons (eVar 1) (aCons (eVar 4) aNil))) aNil)))) [2, 3, 4]) aNil)))
noncomputable def fn_reweighed : Fn3 := run3 2 5 d_reweighed
theorem comp_ex (g m : Rat) : ∀ q : List Rat, ∃ r : List Rat, r.length ≤ q.length ∧ ∀ x, ev r x = ev q (g * x + m)
  | [] => ⟨[], Nat.le_refl _, fun x => by rw [ev_nil, ev_nil]⟩
  | c :: q => by
    obtain ⟨r, hl, hr⟩ := comp_ex g m q
    refine ⟨psum [c] (psum (pscale (0 :: r) g) (pscale r m)), ?_, fun x => ?_⟩
    · have h1 := psum_len [c] (psum (pscale (0 :: r) g) (pscale r m))
      have h2 := psum_len (pscale (0 :: r) g) (pscale r m)
      have h3 := pscale_len (0 :: r) g
      have h4 := pscale_len r m
      simp at *; omega
    · rw [ev_psum, ev_psum, ev_pscale, ev_pscale, ev_cons, ev_nil, ev_cons, ev_cons, hr]; grind
theorem ev_scaled (c : Rat) : ∀ (q : List Rat) (x : Rat), ev (q.map (c * ·)) x = c * ev q x
  | [], x => by rw [List.map_nil, ev_nil]; grind
  | a :: q, x => by rw [List.map_cons, ev_cons, ev_cons, ev_scaled c q x]; grind
theorem trim_scaled {c : Rat} (hc : c ≠ 0) : ∀ q : List Rat, trim (q.map (c * ·)) = (trim q).map (c * ·)
  | [] => by simp [trim]
  | a :: q => by
    have ih := trim_scaled hc q
    rw [List.map_cons, trim, trim, ih]
    cases h : trim q with
    | nil =>
      by_cases ha : a = 0
      · subst ha; simp
      · have : c * a ≠ 0 := fun z => (Rat.mul_eq_zero.mp z).elim hc ha
        simp [ha, this]
    | cons b r => simp
/-- the spots with something else -/
def mapS (fx fy fw : Spo → Rat) (t : List Spo) : List Spo := t.map fun s => ⟨fx s, fy s, fw s⟩
@[simp] theorem mapS_len {fx fy fw : Spo → Rat} {t : List Spo} : (mapS fx fy fw t).length = t.length := by simp [mapS]
theorem xsO_mapS {fx fy fw : Spo → Rat} {t : List Spo} {k : Nat} (h : k < t.length) : at0 (xsO (mapS fx fy fw t)) k = fx t[k] := by rw [xsO_at (by simpa using h)]; simp [mapS]
theorem ysO_mapS {fx fy fw : Spo → Rat} {t : List Spo} {k : Nat} (h : k < t.length) : at0 (ysO (mapS fx fy fw t)) k = fy t[k] := by rw [ysO_at (by simpa using h)]; simp [mapS]
theorem wsO_mapS {fx fy fw : Spo → Rat} {t : List Spo} {k : Nat} (h : k < t.length) : at0 (wsO (mapS fx fy fw t)) k = fw t[k] := by rw [wsO_at (by simpa using h)]; simp [mapS]
theorem wpos_mapS {fx fy fw : Spo → Rat} {t : List Spo} (h : ∀ s ∈ t, 0 < fw s) : WPos (mapS fx fy fw t) := fun s hs => by
  obtain ⟨u, hu, rfl⟩ := List.mem_map.mp hs; exact h u hu
theorem rise_same {fy fw : Spo → Rat} {t : List Spo} (h : Rise (xsO t)) : Rise (xsO (mapS (·.x) fy fw t)) := fun i j hij hj => by
  rw [xsO_len, mapS_len] at hj
  rw [xsO_mapS (by omega), xsO_mapS hj, ← xsO_at, ← xsO_at]
  exact h i j hij (by rw [xsO_len]; exact hj)
theorem level_scaled {t : List Spo} {c : Rat} (hc : c ≠ 0) (hr : Rise (xsO t)) (hw : WPos t) (h2 : 2 ≤ t.length) : lvPoly (mapS (·.x) (fun s => c * s.y) (·.w) t) = (lvPoly t).map (c * ·) ∧ firstE (mapS (·.x) (fun s => c * s.y) (·.w) t) = c * firstE t := by
  have hll := lvPoly_len t
  have lr := lv_right hr hw h2
  refine level_is (rise_same hr) (wpos_mapS hw) (by simpa using h2) (by simpa using hll) (by rw [trim_scaled hc, lvPoly, through, trim_thr]) fun k hk => ?_
  rw [mapS_len] at hk
  have := lr k hk
  rw [ysO_at hk, xsO_at hk, wsO_at hk] at this
  rw [ysO_mapS hk, xsO_mapS hk, wsO_mapS hk, ev_scaled]
  grind
theorem level_weighed {t : List Spo} {c : Rat} (hc : 0 < c) (hr : Rise (xsO t)) (hw : WPos t) (h2 : 2 ≤ t.length) : lvPoly (mapS (·.x) (·.y) (fun s => c * s.w) t) = lvPoly t ∧ firstE (mapS (·.x) (·.y) (fun s => c * s.w) t) = c * firstE t := by
  have hll := lvPoly_len t
  have lr := lv_right hr hw h2
  refine level_is (rise_same hr) (wpos_mapS fun s hs => Rat.mul_pos hc (hw s hs)) (by simpa using h2) (by simpa using hll) (by rw [lvPoly, through, trim_thr]) fun k hk => ?_
  rw [mapS_len] at hk
  have := lr k hk
  have wn := w_ne hw hk
  have c0 : c ≠ 0 := fun z => by subst z; exact absurd hc Rat.lt_irrefl
  rw [ysO_at hk, xsO_at hk, wsO_at hk] at this
  rw [wsO_at hk] at wn
  rw [ysO_mapS hk, xsO_mapS hk, wsO_mapS hk]
  grind
theorem level_added {t : List Spo} {p r : List Rat} (hr : Rise (xsO t)) (hw : WPos t) (h2 : 2 ≤ t.length) (hl : r.length ≤ t.length - 1) (ht : trim r = r) (he : ∀ x, ev r x = ev (lvPoly t) x + ev p x) : lvPoly (mapS (·.x) (fun s => s.y + ev p s.x) (·.w) t) = r ∧ firstE (mapS (·.x) (fun s => s.y + ev p s.x) (·.w) t) = firstE t := by
  have lr := lv_right hr hw h2
  refine level_is (rise_same hr) (wpos_mapS hw) (by simpa using h2) (by simpa using hl) ht fun k hk => ?_
  rw [mapS_len] at hk
  have := lr k hk
  rw [ysO_at hk, xsO_at hk, wsO_at hk] at this
  rw [ysO_mapS hk, xsO_mapS hk, wsO_mapS hk, he]
  grind
theorem level_moved {t : List Spo} {g m : Rat} (hg : 0 < g) (hr : Rise (xsO t)) (hw : WPos t) (h2 : 2 ≤ t.length) : Rise (xsO (mapS (fun s => g * s.x + m) (·.y) (·.w) t)) ∧ (∀ x, ev (lvPoly (mapS (fun s => g * s.x + m) (·.y) (·.w) t)) (g * x + m) = ev (lvPoly t) x) ∧ firstE (mapS (fun s => g * s.x + m) (·.y) (·.w) t) = firstE t := by
  have rise : Rise (xsO (mapS (fun s => g * s.x + m) (·.y) (·.w) t)) := fun i j hij hj => by
    rw [xsO_len, mapS_len] at hj
    have := hr i j hij (by rw [xsO_len]; exact hj)
    rw [xsO_at hj, xsO_at (by omega)] at this
    rw [xsO_mapS (by omega), xsO_mapS hj]
    have := Rat.mul_lt_mul_of_pos_left this hg
    grind
  have lr := lv_right rise (wpos_mapS hw) (by simpa using h2)
  have hll := lvPoly_len (mapS (fun s => g * s.x + m) (·.y) (·.w) t)
  rw [mapS_len] at hll lr
  obtain ⟨r, rl, re⟩ := comp_ex g m (lvPoly (mapS (fun s => g * s.x + m) (·.y) (·.w) t))
  have u := lv_unique (q := r) (g := firstE (mapS (fun s => g * s.x + m) (·.y) (·.w) t)) hr hw h2 (by omega) fun k hk => by
    have := lr k hk
    rw [ysO_mapS hk, xsO_mapS hk, wsO_mapS hk] at this
    rw [ysO_at hk, xsO_at hk, wsO_at hk, re]; exact this
  refine ⟨rise, fun x => ?_, u.1⟩
  rw [← re x, ← u.2, ev_trim]
/-- turned about -/
theorem level_turned {t : List Spo} {g m : Rat} (hg : g < 0) (hr : Rise (xsO t)) (hw : WPos t) (h2 : 2 ≤ t.length) : Rise (xsO (mapS (fun s => g * s.x + m) (·.y) (·.w) t).reverse) ∧ (∀ x, ev (lvPoly (mapS (fun s => g * s.x + m) (·.y) (·.w) t).reverse) (g * x + m) = ev (lvPoly t) x) ∧ sg (t.length - 1) * firstE (mapS (fun s => g * s.x + m) (·.y) (·.w) t).reverse = firstE t := by
  generalize ht' : (mapS (fun s => g * s.x + m) (·.y) (·.w) t).reverse = t'
  have hl : t'.length = t.length := by rw [← ht']; simp
  have get : ∀ k (h : k < t'.length), t'[k] = ⟨g * (t[t.length - 1 - k]'(by omega)).x + m, (t[t.length - 1 - k]'(by omega)).y, (t[t.length - 1 - k]'(by omega)).w⟩ := fun k h => by
    subst ht'
    rw [List.getElem_reverse]
    simp [mapS]
  have rise : Rise (xsO t') := fun i j hij hj => by
    rw [xsO_len] at hj
    have := hr (t.length - 1 - j) (t.length - 1 - i) (by omega) (by rw [xsO_len]; omega)
    rw [xsO_at (by omega), xsO_at (by omega)] at this
    rw [xsO_at hj, xsO_at (by omega), get, get]
    have := Rat.mul_lt_mul_of_pos_left this (show 0 < -g by grind)
    grind
  have wp : WPos t' := fun s hs => by
    rw [← ht'] at hs
    exact wpos_mapS hw s (List.mem_reverse.mp hs)
  have lr := lv_right rise wp (by omega)
  have hll := lvPoly_len t'
  obtain ⟨r, rl, re⟩ := comp_ex g m (lvPoly t')
  have u := lv_unique (q := r) (g := sg (t.length - 1) * firstE t') hr hw h2 (by omega) fun k hk => by
    have := lr (t.length - 1 - k) (by omega)
    rw [ysO_at (by omega), xsO_at (by omega), wsO_at (by omega), get] at this
    simp only [show t.length - 1 - (t.length - 1 - k) = k by omega] at this
    have b := sg_add k (t.length - 1 - k)
    rw [show k + (t.length - 1 - k) = t.length - 1 by omega] at b
    have d := sg_sq k
    rw [ysO_at hk, xsO_at hk, wsO_at hk, re, this, b]
    generalize sg (t.length - 1 - k) = s1 at *
    generalize sg k = s2 at *
    have : s2 * (s2 * s1 * firstE t') = (s2 * s2) * (s1 * firstE t') := by grind
    rw [this, d]; grind
  refine ⟨rise, fun x => ?_, u.1⟩
  rw [← re x, ← u.2, ev_trim]
/-! ## tables in order -/
theorem rise_ext : ∀ {a b : List Spo}, RiseS a → RiseS b → (∀ s, s ∈ a ↔ s ∈ b) → a = b
  | [], [], _, _, _ => rfl
  | [], y :: b, _, _, h => absurd ((h y).mpr (by simp)) (by simp)
  | x :: a, [], _, _, h => absurd ((h x).mp (by simp)) (by simp)
  | x :: a, y :: b, ha, hb, h => by
    have ha' := List.pairwise_cons.mp ha
    have hb' := List.pairwise_cons.mp hb
    have e : x = y := by
      rcases List.mem_cons.mp ((h x).mp (by simp)) with q | q
      · exact q
      · rcases List.mem_cons.mp ((h y).mpr (by simp)) with q2 | q2
        · exact q2.symm
        · have h1 := hb'.1 x q
          have h2 := ha'.1 y q2
          exact absurd h1 (by grind)
    subst e
    congr 1
    refine rise_ext ha'.2 hb'.2 fun s => ⟨fun hs => ?_, fun hs => ?_⟩
    · rcases List.mem_cons.mp ((h s).mp (List.mem_cons_of_mem _ hs)) with q | q
      · subst q; exact absurd (ha'.1 s hs) Rat.lt_irrefl
      · exact q
    · rcases List.mem_cons.mp ((h s).mpr (List.mem_cons_of_mem _ hs)) with q | q
      · subst q; exact absurd (hb'.1 s hs) Rat.lt_irrefl
      · exact q
def insS (f : List Spo) (s : Spo) : List Spo := f.take (place f s.x) ++ [s] ++ f.drop (place f s.x)
theorem mem_insS {f : List Spo} {s q : Spo} : q ∈ insS f s ↔ q = s ∨ q ∈ f := by
  have e : q ∈ f ↔ q ∈ f.take (place f s.x) ∨ q ∈ f.drop (place f s.x) := by
    conv => lhs; rw [← List.take_append_drop (place f s.x) f]
    exact List.mem_append
  unfold insS
  rw [e]
  simp only [List.mem_append, List.mem_singleton]
  constructor
  · rintro ((h | h) | h)
    · exact .inr (.inl h)
    · exact .inl h
    · exact .inr (.inr h)
  · rintro (h | h | h)
    · exact .inl (.inr h)
    · exact .inl (.inl h)
    · exact .inr h
theorem insS_len (f : List Spo) (s : Spo) : (insS f s).length = f.length + 1 := by
  unfold insS
  have := place_le f s.x
  simp; omega
theorem insS_rise {f : List Spo} {s : Spo} (hf : RiseS f) (hs : ∀ q ∈ f, q.x ≠ s.x) : RiseS (insS f s) := by
  have pl := place_at (x := s.x) hf
  have lo : ∀ q ∈ f.take (place f s.x), q.x < s.x := fun q hq => by
    obtain ⟨k, hk, rfl⟩ := List.getElem_of_mem hq
    rw [List.length_take] at hk
    rw [List.getElem_take]
    exact (pl k (by omega)).mpr (by omega)
  have up : ∀ q ∈ f.drop (place f s.x), s.x < q.x := fun q hq => by
    obtain ⟨k, hk, rfl⟩ := List.getElem_of_mem hq
    rw [List.length_drop] at hk
    rw [List.getElem_drop]
    have h1 := mt (pl (place f s.x + k) (by omega)).mp (by omega)
    have h2 := hs (f[place f s.x + k]'(by omega)) (List.getElem_mem _)
    grind
  unfold insS RiseS
  refine List.pairwise_append.mpr ⟨List.pairwise_append.mpr ⟨hf.sublist (List.take_sublist _ _), List.pairwise_singleton _ _, fun a ha b hb => ?_⟩, hf.sublist (List.drop_sublist _ _), fun a ha b hb => ?_⟩
  · rw [List.mem_singleton.mp hb]; exact lo a ha
  · have hb' := up b hb
    rcases List.mem_append.mp ha with h | h
    · have := lo a h; grind
    · rw [List.mem_singleton.mp h]; exact hb'
/-- x's unlike -/
def UnS (t : List Spo) : Prop := t.Pairwise fun a b => a.x ≠ b.x
theorem sgn_pos {q : Rat} (h : 0 < q) : sgn q = 1 := by
  have h1 : ((sgn q : Int) : Rat) = sn q := sgn_cast q
  have h2 : sn q = 1 := by unfold sn; split <;> (try split) <;> grind
  rw [h2] at h1
  exact Rat.intCast_inj.mp h1
theorem fn_table_of_eq {L : Lh} {N n : Nat} {l r : List Spo} (hl : L[n]? = some (.lst (l.map spD))) (st : SzT N l) (hN : N ≤ 1000000) (wt : WPos l) (hu : UnS l) (hlen : l.length ≤ 100) (hr : RiseS r) (hm : ∀ s, s ∈ r ↔ s ∈ l) :
    fn_table_of [.loc n] L = .val (.loc L.length) (L ++ [.lst (r.map spD)]) := by
  have key : wpR (fn_table_of [.loc n] L) (fun d L' => d = .loc L.length ∧ L' = L ++ [.lst (r.map spD)]) noE := by
    unfold fn_table_of d_table_of
    refine wp_run rfl ?_
    simp [-Po.seq_nx]
    have hl1 := get_app (X := [.lst []]) hl
    have hf1 := get_last (L := L) (c := .lst [])
    have pre1 : Pre L (L ++ [.lst []]) := Pre.new
    have hlt := lt_of_get hl
    generalize hL1 : L ++ [Cell.lst []] = L1 at *
    rw [Po.seq_nx, wp_sSeq]
    simp [-Po.seq_nx, ltR_loc hl1]
    refine wp_for (fun k Γ L' => ∃ (f : List Spo) (v2 v3 v4 : Option D), Γ = [some (.loc n), some (.loc L.length), v2, v3, v4] ∧ L'[L.length]? = some (.lst (f.map spD)) ∧ RiseS f ∧ (∀ s, s ∈ f ↔ s ∈ l.take k) ∧ f.length = k ∧ Pre L L' ∧ L'[n]? = some (.lst (l.map spD)))
      ⟨[], _, _, _, rfl, hf1, List.Pairwise.nil, by simp, rfl, pre1, hl1⟩ (fun _ _ _ _ h => by obtain ⟨f, v2, v3, v4, _, _, _, _, _, _, h⟩ := h; exact h) (fun k hk Γ L2 J hJ hI => ?_) (fun Γ L2 hI => ?_)
    · obtain ⟨f, v2, v3, v4, rfl, hf, fr', fm, fl, pre2, hl2⟩ := hI
      have hk' : k < l.length := by simpa using hk
      have hsm := List.getElem_mem hk'
      have tk : l.take (k + 1) = l.take k ++ [l[k]] := by rw [List.take_succ_eq_append_getElem hk']
      have hne : ∀ q ∈ f, q.x ≠ l[k].x := fun q hq => by
        obtain ⟨i, hi, e⟩ := List.getElem_of_mem ((fm q).mp hq)
        rw [List.length_take] at hi
        rw [List.getElem_take] at e
        rw [← e]
        exact List.pairwise_iff_getElem.mp hu i k (by omega) hk' (by omega)
      simp only [List.getElem_map]
      generalize l[k] = s at *
      have ss := st s hsm
      have sf : ∀ q ∈ f, Sz N q.x := fun q hq => (st q (List.mem_of_mem_take ((fm q).mp hq))).1
      simp [-Po.seq_nx, ltR_loc hf]
      have fl100 : f.length ≤ 100 := by omega
      refine wp_lcFil (d := spD) (fun q => decide (q.x < s.x)) (by omega) (fun _ => get_app hf) (fun q hq acc => ?_) ?_
      · have z := fun X => fn_is_below_eq X (Fit.le (sf q hq) (Nat.le_trans hN (by decide))) (Fit.le ss.1 (Nat.le_trans hN (by decide)))
        simp [z]
      · have hg := get_last (L := L2) (c := .lst ((f.filter fun q => decide (q.x < s.x)).map spD))
        have hf3 := get_app (X := [.lst ((f.filter fun q => decide (q.x < s.x)).map spD)]) hf
        have hl3 := get_app (X := [.lst ((f.filter fun q => decide (q.x < s.x)).map spD)]) hl2
        have pre3 := pre2.app (X := [.lst ((f.filter fun q => decide (q.x < s.x)).map spD)])
        have pe : (f.filter fun q => decide (q.x < s.x)).length = place f s.x := rfl
        have ple := place_le f s.x
        have i3 := items_loc hg
        generalize (f.filter fun q => decide (q.x < s.x)) = gg at *
        generalize hL3 : L2 ++ [Cell.lst (gg.map spD)] = L3 at *
        simp [-Po.seq_nx, i3, pe]
        rw [Po.seq_nx, wp_sSeq]
        have if3 := items_loc hf3
        have fin : wpS (sDrop (eMt "list" mInsert (eVar 1) (aCons (eVar 3) (aCons (eVar 2) aNil))) [some (.loc n), some (.loc L.length), some (spD s), some (.int (place f s.x)), v4] L3) (((Po.fn L (fun d L' => d = .loc L.length ∧ L' = L ++ [.lst (r.map spD)]) noE).seq (sSeq (sFor (iLT (eVar 1)) (gN 2) (sIf (tE (eOp fLt (eCall fn_sign (aCons (eOp fIx (eVar 2) (eC (.int 2))) aNil)) (eC (.int 1)))) (sRaise "NoWeight") sNext)) (sRet (eVar 1)))).loop J) := by
          simp [hf3, -Po.seq_nx]
          rw [mInsert_eq hf3 (by simp; omega) (by omega)]
          have ei : (f.map spD).take (place f s.x) ++ [spD s] ++ (f.map spD).drop (place f s.x) = (insS f s).map spD := by
            unfold insS
            simp [List.map_take, List.map_drop]
          rw [ei]
          simp
          refine hJ _ _ ⟨insS f s, _, _, _, rfl, get_set hf3, insS_rise fr' hne, fun q => ?_, by rw [insS_len, fl], pre3.set (Nat.le_refl _), get_set_ne hl3 (by omega)⟩
          rw [mem_insS, tk, List.mem_append, List.mem_singleton, fm q]
          exact Or.comm
        by_cases hpl : place f s.x < f.length
        · have x1 : fIx (.loc L.length) (.int (place f s.x)) L3 = .val (spD f[place f s.x]) L3 := fIx_listS (by rw [itemsT_loc]; exact if3) (by rw [atI_some (by simpa using hpl), List.getElem_map])
          have nx := hne _ (List.getElem_mem hpl)
          simp [-Po.seq_nx, if3, hpl, x1, nx]
          rw [Po.seq_nx]
          exact fin
        · simp [-Po.seq_nx, if3, hpl]
          rw [Po.seq_nx]
          exact fin
    · obtain ⟨f, v2, v3, v4, rfl, hf, fr', fm, fl, pre2, hl2⟩ := hI
      have e : f = r := rise_ext fr' hr fun s => by rw [fm s, hm s]; simp
      subst e
      rw [Po.seq_nx, wp_sSeq]
      simp [-Po.seq_nx, ltR_loc hf]
      refine wp_for (fun k Γ L' => L' = L2 ∧ ∃ v2, Γ = [some (.loc n), some (.loc L.length), v2, v3, v4]) ⟨rfl, _, rfl⟩ (fun _ _ _ _ h => by rw [h.1]; exact hf) (fun k hk Γ L' J hJ hI => ?_) (fun Γ L' hI => ?_)
      · obtain ⟨rfl, v2, rfl⟩ := hI
        have hk' : k < f.length := by simpa using hk
        have w0 := wt _ ((hm _).mp (List.getElem_mem hk'))
        simp [fn_sign_eq, sgn_pos w0]
        exact hJ _ _ ⟨rfl, _, rfl⟩
      · obtain ⟨rfl, v2, rfl⟩ := hI
        simp
        exact wp_truncPL pre2 (Nat.le_refl _) hf (closeds_sps _ _) ⟨rfl, rfl⟩
  obtain ⟨d, L', e, rfl, rfl⟩ := key.ex
  exact e
theorem rise_un {t : List Spo} (h : RiseS t) : UnS t := h.imp fun hab z => by rw [z] at hab; exact absurd hab Rat.lt_irrefl
theorem szT_mapS {N : Nat} {fx fy fw : Spo → Rat} {t : List Spo} (h : ∀ s ∈ t, Sz N (fx s) ∧ Sz N (fy s) ∧ Sz N (fw s)) : SzT N (mapS fx fy fw t) := fun s hs => by
  obtain ⟨q, hq, rfl⟩ := List.mem_map.mp hs
  exact h q hq
theorem riseS_same {fy fw : Spo → Rat} {t : List Spo} (h : RiseS t) : RiseS (mapS (·.x) fy fw t) := by
  unfold RiseS mapS
  exact List.pairwise_map.mpr h
/-- a table moved -/
def movS (g h : Rat) (t : List Spo) : List Spo := if g < 0 then (mapS (fun s => g * s.x + h) (·.y) (·.w) t).reverse else mapS (fun s => g * s.x + h) (·.y) (·.w) t
theorem mem_movS {g h : Rat} {t : List Spo} {s : Spo} : s ∈ movS g h t ↔ ∃ q ∈ t, Spo.mk (g * q.x + h) q.y q.w = s := by
  unfold movS
  split <;> simp [mapS]
theorem movS_len (g h : Rat) (t : List Spo) : (movS g h t).length = t.length := by unfold movS; split <;> simp
theorem movS_rise {g h : Rat} {t : List Spo} (hg : g ≠ 0) (ht : RiseS t) : RiseS (movS g h t) := by
  unfold movS
  split
  · rename_i c
    unfold RiseS mapS
    refine List.pairwise_reverse.mpr (List.pairwise_map.mpr (ht.imp fun {a b} hab => ?_))
    have := Rat.mul_lt_mul_of_pos_left hab (show 0 < -g by grind)
    simp only []
    grind
  · rename_i c
    unfold RiseS mapS
    refine List.pairwise_map.mpr (ht.imp fun {a b} hab => ?_)
    have := Rat.mul_lt_mul_of_pos_left hab (show 0 < g by grind)
    simp only []
    grind
section
variable {L : Lh} {N M n : Nat} {t : List Spo}
/-- the map of a table, put in order -/
theorem table_tail {L1 : Lh} {r u : List Spo} {Q : D → Lh → Prop} {E E' : Str → Lh → Prop} (hL : L1 = L ++ [.lst (u.map spD)]) (su : SzT M u) (hM : M ≤ 1000000) (wu : WPos u) (uu : UnS u) (hl : u.length ≤ 100) (hr : RiseS r) (hm : ∀ s, s ∈ r ↔ s ∈ u) (hq : Q (.loc L.length) (L ++ [.lst (r.map spD)])) :
    wpR (fn_table_of [.loc L.length] L1) (Po.fn L Q E).rt E' := by
  have hg : L1[L.length]? = some (.lst (u.map spD)) := by rw [hL]; exact get_last
  have z := fn_table_of_eq hg su hM wu uu hl hr hm
  simp [z]
  refine wp_truncPL (m := L1.length) ?_ (by rw [hL]; simp) (get_last (L := L1)) (closeds_sps _ _) hq
  rw [hL]; exact Pre.new.app
theorem fn_moved_eq {g h : Rat} (ht : L[n]? = some (.lst (t.map spD))) (rt : RiseS t) (wt : WPos t) (st : SzT N t) (hl : t.length ≤ 100) (hg : g ≠ 0) (sg : Sz M g) (sh : Sz M h) (hN : N + 2 * M + 10 ≤ 1000000) :
    fn_moved [.loc n, fr g, fr h] L = .val (.loc L.length) (L ++ [.lst ((movS g h t).map spD)]) := by
  have key : wpR (fn_moved [.loc n, fr g, fr h] L) (fun d L' => d = .loc L.length ∧ L' = L ++ [.lst ((movS g h t).map spD)]) noE := by
    unfold fn_moved d_moved
    refine wp_run rfl ?_
    simp [ltR_loc ht]
    refine wp_lcMap (fun k => ((mapS (fun s => g * s.x + h) (·.y) (·.w) t).map spD)[k]?.getD .non) (by simp; omega) (fun _ => get_app ht) (fun k hk acc => ?_) ?_
    · have hk' : k < t.length := by simpa using hk
      have s1 := (st _ (List.getElem_mem hk')).1
      have z1 := fun X => fn_times_eq X (p := g) (q := t[k].x) (Fit.le sg (Nat.le_trans (show M ≤ 1000000 by omega) (by decide))) (Fit.le s1 (Nat.le_trans (show N ≤ 1000000 by omega) (by decide)))
      have z2 := fun X => fn_plus_eq X (p := g * t[k].x) (q := h) (Fit.le (sg.mul s1) (Nat.le_trans (show M + N ≤ 1000000 by omega) (by decide))) (Fit.le sh (Nat.le_trans (show M ≤ 1000000 by omega) (by decide)))
      simp [z1, z2, hk', mapS]
      rfl
    · have e : (List.range (t.map spD).length).map (fun k => ((mapS (fun s => g * s.x + h) (·.y) (·.w) t).map spD)[k]?.getD .non) = (mapS (fun s => g * s.x + h) (·.y) (·.w) t).map spD := by
        refine List.ext_getElem (by simp) fun i h1 h2 => ?_
        have : i < t.length := by simpa using h1
        simp [this]
      rw [e]
      have hr := movS_rise (h := h) hg rt
      have hm : ∀ s, s ∈ movS g h t ↔ s ∈ mapS (fun s => g * s.x + h) (·.y) (·.w) t := fun s => by unfold movS; split <;> simp
      have uu : UnS (mapS (fun s => g * s.x + h) (·.y) (·.w) t) := by
        unfold UnS mapS
        refine List.pairwise_map.mpr (rt.imp fun {a b} hab => ?_)
        simp only []
        intro z
        have : g * (a.x - b.x) = 0 := by grind
        rcases Rat.mul_eq_zero.mp this with c | c
        · exact hg c
        · grind
      simp [-List.map_map]
      exact table_tail (M := N + 2 * M + 10) rfl (szT_mapS fun s hs => by
        obtain ⟨a1, a2, a3⟩ := st s hs
        exact ⟨((sg.mul a1).add sh).mono (by omega), a2.mono (by omega), a3.mono (by omega)⟩) (by omega) (wpos_mapS wt) uu (by simpa using hl) hr hm (by exact ⟨rfl, rfl⟩)
  obtain ⟨d, L', e, rfl, rfl⟩ := key.ex
  exact e
theorem fn_scaled_eq {g : Rat} (ht : L[n]? = some (.lst (t.map spD))) (rt : RiseS t) (wt : WPos t) (st : SzT N t) (hl : t.length ≤ 100) (sg : Sz M g) (hN : N + M + 10 ≤ 1000000) :
    fn_scaled [.loc n, fr g] L = .val (.loc L.length) (L ++ [.lst ((mapS (·.x) (fun s => g * s.y) (·.w) t).map spD)]) := by
  have key : wpR (fn_scaled [.loc n, fr g] L) (fun d L' => d = .loc L.length ∧ L' = L ++ [.lst ((mapS (·.x) (fun s => g * s.y) (·.w) t).map spD)]) noE := by
    unfold fn_scaled d_scaled
    refine wp_run rfl ?_
    simp [ltR_loc ht]
    refine wp_lcMap (fun k => ((mapS (·.x) (fun s => g * s.y) (·.w) t).map spD)[k]?.getD .non) (by simp; omega) (fun _ => get_app ht) (fun k hk acc => ?_) ?_
    · have hk' : k < t.length := by simpa using hk
      have s1 := (st _ (List.getElem_mem hk')).2.1
      have z1 := fun X => fn_times_eq X (p := g) (q := t[k].y) (Fit.le sg (Nat.le_trans (show M ≤ 1000000 by omega) (by decide))) (Fit.le s1 (Nat.le_trans (show N ≤ 1000000 by omega) (by decide)))
      simp [z1, hk', mapS]
      rfl
    · have e : (List.range (t.map spD).length).map (fun k => ((mapS (·.x) (fun s => g * s.y) (·.w) t).map spD)[k]?.getD .non) = (mapS (·.x) (fun s => g * s.y) (·.w) t).map spD := by
        refine List.ext_getElem (by simp) fun i h1 h2 => ?_
        have : i < t.length := by simpa using h1
        simp [this]
      rw [e]
      simp [-List.map_map]
      have hr := riseS_same (fy := fun s => g * s.y) (fw := (·.w)) rt
      exact table_tail (M := N + M + 10) rfl (szT_mapS fun s hs => by
        obtain ⟨a1, a2, a3⟩ := st s hs
        exact ⟨a1.mono (by omega), (sg.mul a2).mono (by omega), a3.mono (by omega)⟩) (by omega) (wpos_mapS wt) (rise_un hr) (by simpa using hl) hr (fun s => Iff.rfl) (by exact ⟨rfl, rfl⟩)
  obtain ⟨d, L', e, rfl, rfl⟩ := key.ex
  exact e
theorem fn_reweighed_eq {g : Rat} (ht : L[n]? = some (.lst (t.map spD))) (rt : RiseS t) (wt : WPos t) (st : SzT N t) (hl : t.length ≤ 100) (g0 : 0 < g) (sg : Sz M g) (hN : N + M + 10 ≤ 1000000) :
    fn_reweighed [.loc n, fr g] L = .val (.loc L.length) (L ++ [.lst ((mapS (·.x) (·.y) (fun s => g * s.w) t).map spD)]) := by
  have key : wpR (fn_reweighed [.loc n, fr g] L) (fun d L' => d = .loc L.length ∧ L' = L ++ [.lst ((mapS (·.x) (·.y) (fun s => g * s.w) t).map spD)]) noE := by
    unfold fn_reweighed d_reweighed
    refine wp_run rfl ?_
    simp [ltR_loc ht]
    refine wp_lcMap (fun k => ((mapS (·.x) (·.y) (fun s => g * s.w) t).map spD)[k]?.getD .non) (by simp; omega) (fun _ => get_app ht) (fun k hk acc => ?_) ?_
    · have hk' : k < t.length := by simpa using hk
      have s1 := (st _ (List.getElem_mem hk')).2.2
      have z1 := fun X => fn_times_eq X (p := g) (q := t[k].w) (Fit.le sg (Nat.le_trans (show M ≤ 1000000 by omega) (by decide))) (Fit.le s1 (Nat.le_trans (show N ≤ 1000000 by omega) (by decide)))
      simp [z1, hk', mapS]
      rfl
    · have e : (List.range (t.map spD).length).map (fun k => ((mapS (·.x) (·.y) (fun s => g * s.w) t).map spD)[k]?.getD .non) = (mapS (·.x) (·.y) (fun s => g * s.w) t).map spD := by
        refine List.ext_getElem (by simp) fun i h1 h2 => ?_
        have : i < t.length := by simpa using h1
        simp [this]
      rw [e]
      simp [-List.map_map]
      have hr := riseS_same (fy := (·.y)) (fw := fun s => g * s.w) rt
      exact table_tail (M := N + M + 10) rfl (szT_mapS fun s hs => by
        obtain ⟨a1, a2, a3⟩ := st s hs
        exact ⟨a1.mono (by omega), a2.mono (by omega), (sg.mul a3).mono (by omega)⟩) (by omega) (wpos_mapS fun s hs => Rat.mul_pos g0 (wt s hs)) (rise_un hr) (by simpa using hl) hr (fun s => Iff.rfl) (by exact ⟨rfl, rfl⟩)
  obtain ⟨d, L', e, rfl, rfl⟩ := key.ex
  exact e
theorem fn_bent_eq {p : List Rat} (ht : L[n]? = some (.lst (t.map spD))) (rt : RiseS t) (wt : WPos t) (st : SzT N t) (hl : t.length ≤ 100) (sp : SzP M p) (hpl : p.length ≤ 10) (hN : 11 * (N + M + 10) ≤ 1000000) :
    fn_bent [.loc n, pol p] L = .val (.loc L.length) (L ++ [.lst ((mapS (·.x) (fun s => s.y + ev p s.x) (·.w) t).map spD)]) := by
  have key : wpR (fn_bent [.loc n, pol p] L) (fun d L' => d = .loc L.length ∧ L' = L ++ [.lst ((mapS (·.x) (fun s => s.y + ev p s.x) (·.w) t).map spD)]) noE := by
    unfold fn_bent d_bent
    refine wp_run rfl ?_
    simp [ltR_loc ht]
    have m1 := Nat.mul_le_mul (show p.length + 1 ≤ 11 by omega) (Nat.le_refl (M + N + 2))
    have m2 := Nat.mul_le_mul (show p.length ≤ 10 by omega) (Nat.le_refl (M + N + 2))
    refine wp_lcMap (fun k => ((mapS (·.x) (fun s => s.y + ev p s.x) (·.w) t).map spD)[k]?.getD .non) (by simp; omega) (fun _ => get_app ht) (fun k hk acc => ?_) ?_
    · have hk' : k < t.length := by simpa using hk
      obtain ⟨a1, a2, a3⟩ := st _ (List.getElem_mem hk')
      have se := ev_sz sp a1 (Nat.le_refl p.length)
      have z1 := fun X => fn_worth_eq X sp a1 (Nat.le_trans (show (p.length + 1) * (M + N + 2) + 1 ≤ 1000001 by omega) (by decide))
      have z2 := fun X => fn_plus_eq X (p := t[k].y) (q := ev p t[k].x) (Fit.le a2 (Nat.le_trans (show N ≤ 1000000 by omega) (by decide))) (Fit.le se (Nat.le_trans (show p.length * (M + N + 2) + 1 ≤ 1000001 by omega) (by decide)))
      simp [z1, z2, hk', mapS]
      rfl
    · have e : (List.range (t.map spD).length).map (fun k => ((mapS (·.x) (fun s => s.y + ev p s.x) (·.w) t).map spD)[k]?.getD .non) = (mapS (·.x) (fun s => s.y + ev p s.x) (·.w) t).map spD := by
        refine List.ext_getElem (by simp) fun i h1 h2 => ?_
        have : i < t.length := by simpa using h1
        simp [this]
      rw [e]
      simp [-List.map_map]
      have hr := riseS_same (fy := fun s => s.y + ev p s.x) (fw := (·.w)) rt
      exact table_tail (M := 11 * (N + M + 10)) rfl (szT_mapS fun s hs => by
        obtain ⟨a1, a2, a3⟩ := st s hs
        exact ⟨a1.mono (by omega), (a2.add (ev_sz sp a1 (Nat.le_refl p.length))).mono (by omega), a3.mono (by omega)⟩) (by omega) (wpos_mapS wt) (rise_un hr) (by simpa using hl) hr (fun s => Iff.rfl) (by exact ⟨rfl, rfl⟩)
  obtain ⟨d, L', e, rfl, rfl⟩ := key.ex
  exact e
end
theorem tr_psum (a b : List Rat) : trim (psum a b) = psum a b := trim_trim _
theorem tr_pmul (a b : List Rat) : trim (pmul a b) = pmul a b := trim_trim _
theorem tr_pscale (a : List Rat) (g : Rat) : trim (pscale a g) = pscale a g := trim_trim _
theorem same_ev {p q : List Rat} (hp : trim p = p) (hq : trim q = q) (h : ∀ x, ev p x = ev q x) : p = q := by
  have := ev_ext h
  rw [hp, hq] at this; exact this
theorem pmul_comm (a b : List Rat) : pmul a b = pmul b a := same_ev (tr_pmul _ _) (tr_pmul _ _) fun x => by rw [ev_pmul, ev_pmul]; grind
/-- a polynomial put in place -/
def inp (b : List Rat) : List Rat → List Rat
  | [] => []
  | a :: r => psum (pmul (inp b r) (trim b)) (trim [a])
theorem ev_inp (b : List Rat) (x : Rat) : ∀ p, ev (inp b p) x = ev p (ev b x)
  | [] => rfl
  | a :: r => by rw [inp, ev_psum, ev_pmul, ev_inp b x r, ev_trim, ev_trim, ev_cons, ev_cons, ev_nil]; grind
theorem tr_inp (b : List Rat) : ∀ p, trim (inp b p) = inp b p
  | [] => rfl
  | a :: r => tr_psum _ _
def szI (P m : Nat) : Nat → Nat
  | 0 => 1
  | k + 1 => 2 * (m + szI P m k + 3) + 1 + P + 3
theorem inp_sz {P m : Nat} {b : List Rat} (hb : SzP m b) (h2 : b.length ≤ 2) : ∀ {p : List Rat}, SzP P p → SzP (szI P m p.length) (inp b p)
  | [], _ => szP_nil
  | a :: r, h => by
    have ih := inp_sz hb h2 (p := r) fun q hq => h q (List.mem_cons_of_mem _ hq)
    have ha : SzP P [a] := fun q hq => by rw [List.mem_singleton.mp hq]; exact h a (by simp)
    have hl : (trim b).length ≤ 2 := Nat.le_trans (trim_len b) h2
    rw [inp, pmul_comm, List.length_cons, szI]
    exact (SzP.psum (SzP.pmul hb.trim ih hl) ha.trim).mono (by omega)
theorem inp_len {b : List Rat} (h2 : b.length ≤ 2) : ∀ p : List Rat, (inp b p).length ≤ 2 * p.length
  | [] => Nat.le_refl _
  | a :: r => by
    have ih := inp_len h2 r
    have hl : (trim b).length ≤ 2 := Nat.le_trans (trim_len b) h2
    have h3 := psum_len (pmul (inp b r) (trim b)) (trim [a])
    have h4 := pmul_len (inp b r) (trim b)
    have h5 := trim_len [a]
    rw [inp, List.length_cons]
    simp only [List.length_singleton] at h5
    omega
theorem szI_mono (P m : Nat) : ∀ {j k : Nat}, j ≤ k → szI P m j ≤ szI P m k
  | j, 0, h => by rw [Nat.le_zero.mp h]; exact Nat.le_refl _
  | j, k + 1, h => by
    rcases Nat.lt_or_eq_of_le h with h | h
    · have := szI_mono P m (Nat.le_of_lt_succ h)
      rw [szI]; omega
    · rw [h]; exact Nat.le_refl _
def backP (g h : Rat) : List Rat := [-h / g, 1 / g]
theorem ev_back {g h : Rat} (hg : g ≠ 0) (x : Rat) : ev (backP g h) (g * x + h) = x := by
  unfold backP; rw [ev_cons, ev_cons, ev_nil]; grind
theorem fn_in_place_eq {L : Lh} {P M : Nat} {p : List Rat} {g h : Rat} (hp : SzP P p) (hl : p.length ≤ 6) (sg : Sz M g) (sh : Sz M h) (hg : g ≠ 0) (hs : 11 * (szI P (2 * M + 2) 5 + 2 * M + 10) + P + 10 ≤ LIM) :
    fn_in_place [pol p, fr g, fr h] L = .val (pol (inp (backP g h) p)) L := by
  have s1 : Sz (2 * M + 2) (-h / g) := (sh.neg.div sg hg).mono (by omega)
  have s2 : Sz (2 * M + 2) (1 / g) := (sz1.div sg hg).mono (by omega)
  have sb : SzP (2 * M + 2) (backP g h) := fun q hq => by
    rcases List.mem_cons.mp hq with rfl | hq
    · exact s1
    · rw [List.mem_singleton.mp hq]; exact s2
  have z1 := fun X => fn_over_eq X (Fit.of sh.neg (by omega)) (Fit.of sg (by omega)) hg
  have z2 := fun X => fn_over_eq X (p := 1) (Fit.of sz1 (by omega)) (Fit.of sg (by omega)) hg
  have eb : D.tup [fr (-h / g), fr (1 / g)] = pol (backP g h) := rfl
  have en : D.tup [] = pol [] := rfl
  have hbl : (backP g h).length = 2 := rfl
  have hbt : (trim (backP g h)).length ≤ 2 := trim_len _
  apply wpR.eq
  unfold fn_in_place d_in_place
  refine wp_run rfl ?_
  simp [-Po.seq_nx, fn_turned_eq, z1, z2, k1, eb]
  rw [Po.seq_nx, wp_sSeq]
  simp [-Po.seq_nx]
  rw [Po.seq_nx, wp_sSeq, en]
  simp [-Po.seq_nx]
  refine wp_for (fun i Γ L' => Pre L L' ∧ ∃ v5, Γ = [some (pol p), some (fr g), some (fr h), some (pol (backP g h)), some (pol (inp (backP g h) (p.drop (p.length - i)))), v5]) ⟨Pre.refl L, _, by simp; exact ⟨rfl, rfl⟩⟩ (fun _ _ _ _ _ => trivial) (fun i hi Γ L' J hJ h => ?_) (fun Γ L' h => ?_)
  · obtain ⟨pre, v5, rfl⟩ := h
    have hi' : i < p.length := by simpa using hi
    have e3 : p.drop (p.length - (i + 1)) = p[p.length - 1 - i]'(by omega) :: p.drop (p.length - i) := by
      rw [List.drop_eq_getElem_cons (by omega)]
      congr 1
      · congr 1; omega
      · congr 1; omega
    have sA := inp_sz sb (show (backP g h).length ≤ 2 by omega) (p := p.drop (p.length - i)) fun q hq => hp q (List.mem_of_mem_drop hq)
    have lA := inp_len (show (backP g h).length ≤ 2 by omega) (p.drop (p.length - i))
    have dl : (p.drop (p.length - i)).length = i := by rw [List.length_drop]; omega
    rw [dl] at sA lA
    have sm := szI_mono P (2 * M + 2) (show i ≤ 5 by omega)
    have zl := fun X => fn_lean_eq (SeqF.tup (L := X) (ps := backP g h))
    have hm1 := Nat.mul_le_mul (show (inp (backP g h) (p.drop (p.length - i))).length + 1 ≤ 11 by omega) (show szI P (2 * M + 2) i + (2 * M + 2) + 3 ≤ szI P (2 * M + 2) 5 + 2 * M + 10 by omega)
    have zp := fn_product_eq L' sA sb.trim (by omega) (by omega) (by omega)
    have sp : SzP P [p[p.length - 1 - i]'(by omega)] := fun q hq => by rw [List.mem_singleton.mp hq]; exact hp _ (List.getElem_mem _)
    have sM : SzP (2 * (2 * M + 2 + szI P (2 * M + 2) i + 3) + 1) (pmul (inp (backP g h) (p.drop (p.length - i))) (trim (backP g h))) := by
      rw [pmul_comm]; exact SzP.pmul sb.trim sA hbt
    have lM := pmul_len (inp (backP g h) (p.drop (p.length - i))) (trim (backP g h))
    have lt1 := trim_len [p[p.length - 1 - i]'(by omega)]
    have zs := fun X => fn_sum_of_eq X (FitP.of sM (by omega)) (FitP.of sp.trim (by omega)) (by omega) (by simp at lt1; omega)
    have hlst := get_last (L := L') (c := .lst ([p[p.length - 1 - i]'(by omega)].map fr))
    have zl2 := fn_lean_eq (SeqF.lst hlst)
    simp only [List.map_cons, List.map_nil] at zl2
    simp [zl, zp, zl2, zs]
    exact hJ _ _ ⟨pre.app, _, by rw [e3, inp]⟩
  · obtain ⟨pre, v5, rfl⟩ := h
    simp
    exact wp_truncP pre (by simp) ⟨rfl, rfl⟩
/-! ## the nearest goes along -/
theorem rabs_p {q : Rat} (h : 0 ≤ q) : rabs q = q := by unfold rabs; split <;> grind
theorem rabs_m {q : Rat} (h : q ≤ 0) : rabs q = -q := by unfold rabs; split <;> grind
theorem rabs_mul (a b : Rat) : rabs (a * b) = rabs a * rabs b := by
  rcases Rat.le_total (a := 0) (b := a) with h1 | h1 <;> rcases Rat.le_total (a := 0) (b := b) with h2 | h2
  · rw [rabs_p h1, rabs_p h2, rabs_p (Rat.mul_nonneg h1 h2)]
  · have h3 := Rat.mul_nonneg h1 (show 0 ≤ -b by grind)
    rw [rabs_p h1, rabs_m h2, rabs_m (by grind)]; grind
  · have h3 := Rat.mul_nonneg (show 0 ≤ -a by grind) h2
    rw [rabs_m h1, rabs_p h2, rabs_m (by grind)]; grind
  · have h3 := Rat.mul_nonneg (show 0 ≤ -a by grind) (show 0 ≤ -b by grind)
    rw [rabs_m h1, rabs_m h2, rabs_p (by grind)]; grind
theorem rabs_sgm (k : Nat) (q : Rat) : rabs (sg k * q) = rabs q := by
  rcases sg_cases k with e | e <;> rw [e]
  · congr 1; grind
  · rw [show (-1 : Rat) * q = -q by grind, rabs_neg]
section
variable {t r : List Spo} {m : Nat}
theorem mem_mapS {fx fy fw : Spo → Rat} {s : Spo} : s ∈ mapS fx fy fw t ↔ ∃ q ∈ t, Spo.mk (fx q) (fy q) (fw q) = s := by simp [mapS]
theorem along_moved {g h : Rat} (hg : g ≠ 0) (wt : WPos t) (h2 : 2 ≤ m) (hr : RefOf t m r) (he : Evn t r) :
    RefOf (movS g h t) m (movS g h r) ∧ Evn (movS g h t) (movS g h r) ∧ (∀ x, ev (lvPoly (movS g h r)) (g * x + h) = ev (lvPoly r) x) ∧ rabs (firstE (movS g h r)) = rabs (firstE r) := by
  have hl := hr.len
  have key : (∀ x, ev (lvPoly (movS g h r)) (g * x + h) = ev (lvPoly r) x) ∧ rabs (firstE (movS g h r)) = rabs (firstE r) := by
    unfold movS
    split
    · rename_i c
      obtain ⟨a1, a2, a3⟩ := level_turned (m := h) c (riseS_iff.mpr hr.rise) (hr.w wt) (by omega)
      exact ⟨a2, by rw [← a3, rabs_sgm]⟩
    · rename_i c
      obtain ⟨a1, a2, a3⟩ := level_moved (g := g) (m := h) (by grind) (riseS_iff.mpr hr.rise) (hr.w wt) (by omega)
      exact ⟨a2, by rw [a3]⟩
  refine ⟨⟨by rw [movS_len, hl], movS_rise hg hr.rise, fun s hs => ?_⟩, fun s hs => ?_, key⟩
  · obtain ⟨q, hq, e⟩ := mem_movS.mp hs
    exact mem_movS.mpr ⟨q, hr.mem q hq, e⟩
  · obtain ⟨q, hq, rfl⟩ := mem_movS.mp hs
    have := he q hq
    rw [key.2]
    unfold errS at this ⊢
    simp only [key.1]
    exact this
theorem along_scaled {g : Rat} (hg : g ≠ 0) (wt : WPos t) (h2 : 2 ≤ m) (hr : RefOf t m r) (he : Evn t r) :
    RefOf (mapS (·.x) (fun s => g * s.y) (·.w) t) m (mapS (·.x) (fun s => g * s.y) (·.w) r) ∧ Evn (mapS (·.x) (fun s => g * s.y) (·.w) t) (mapS (·.x) (fun s => g * s.y) (·.w) r) ∧ lvPoly (mapS (·.x) (fun s => g * s.y) (·.w) r) = pscale (lvPoly r) g ∧ rabs (firstE (mapS (·.x) (fun s => g * s.y) (·.w) r)) = rabs (firstE r) * rabs g := by
  have hl := hr.len
  obtain ⟨a1, a2⟩ := level_scaled hg (riseS_iff.mpr hr.rise) (hr.w wt) (by omega)
  have tr : trim (lvPoly r) = lvPoly r := trim_thr _ _
  have e1 : lvPoly (mapS (·.x) (fun s => g * s.y) (·.w) r) = pscale (lvPoly r) g := by
    rw [a1]
    unfold pscale
    rw [show (lvPoly r).map (· * g) = (lvPoly r).map (g * ·) from List.map_congr_left fun q _ => by grind, trim_scaled hg, tr]
  have e2 : rabs (firstE (mapS (·.x) (fun s => g * s.y) (·.w) r)) = rabs (firstE r) * rabs g := by rw [a2, rabs_mul]; grind
  refine ⟨⟨by simp [hl], riseS_same hr.rise, fun s hs => ?_⟩, fun s hs => ?_, e1, e2⟩
  · obtain ⟨q, hq, e⟩ := mem_mapS.mp hs
    exact mem_mapS.mpr ⟨q, hr.mem q hq, e⟩
  · obtain ⟨q, hq, rfl⟩ := mem_mapS.mp hs
    have := he q hq
    rw [e2, e1]
    have e3 : errS (pscale (lvPoly r) g) ⟨q.x, g * q.y, q.w⟩ = errS (lvPoly r) q * g := by
      unfold errS
      simp only [ev_pscale]; grind
    rw [e3, rabs_mul]
    exact Rat.mul_le_mul_of_nonneg_right this (rabs_nonneg' g)
theorem along_bent {p : List Rat} (wt : WPos t) (h2 : 2 ≤ m) (hr : RefOf t m r) (he : Evn t r) (hp : p.length ≤ m - 1) :
    RefOf (mapS (·.x) (fun s => s.y + ev p s.x) (·.w) t) m (mapS (·.x) (fun s => s.y + ev p s.x) (·.w) r) ∧ Evn (mapS (·.x) (fun s => s.y + ev p s.x) (·.w) t) (mapS (·.x) (fun s => s.y + ev p s.x) (·.w) r) ∧ lvPoly (mapS (·.x) (fun s => s.y + ev p s.x) (·.w) r) = psum (lvPoly r) p ∧ rabs (firstE (mapS (·.x) (fun s => s.y + ev p s.x) (·.w) r)) = rabs (firstE r) := by
  have hl := hr.len
  have ll := lvPoly_len r
  have pl := psum_len (lvPoly r) p
  obtain ⟨a1, a2⟩ := level_added (r := psum (lvPoly r) p) (p := p) (riseS_iff.mpr hr.rise) (hr.w wt) (by omega) (by omega) (tr_psum _ _) fun x => ev_psum _ _ _
  refine ⟨⟨by simp [hl], riseS_same hr.rise, fun s hs => ?_⟩, fun s hs => ?_, a1, by rw [a2]⟩
  · obtain ⟨q, hq, e⟩ := mem_mapS.mp hs
    exact mem_mapS.mpr ⟨q, hr.mem q hq, e⟩
  · obtain ⟨q, hq, rfl⟩ := mem_mapS.mp hs
    have := he q hq
    rw [a2, a1]
    have e3 : errS (psum (lvPoly r) p) ⟨q.x, q.y + ev p q.x, q.w⟩ = errS (lvPoly r) q := by
      unfold errS
      simp only [ev_psum]; grind
    rw [e3]; exact this
theorem along_weighed {g : Rat} (hg : 0 < g) (wt : WPos t) (h2 : 2 ≤ m) (hr : RefOf t m r) (he : Evn t r) :
    RefOf (mapS (·.x) (·.y) (fun s => g * s.w) t) m (mapS (·.x) (·.y) (fun s => g * s.w) r) ∧ Evn (mapS (·.x) (·.y) (fun s => g * s.w) t) (mapS (·.x) (·.y) (fun s => g * s.w) r) ∧ lvPoly (mapS (·.x) (·.y) (fun s => g * s.w) r) = lvPoly r ∧ rabs (firstE (mapS (·.x) (·.y) (fun s => g * s.w) r)) = rabs (firstE r) * g := by
  have hl := hr.len
  obtain ⟨a1, a2⟩ := level_weighed hg (riseS_iff.mpr hr.rise) (hr.w wt) (by omega)
  have ga : rabs g = g := by unfold rabs; split <;> grind
  have e2 : rabs (firstE (mapS (·.x) (·.y) (fun s => g * s.w) r)) = rabs (firstE r) * g := by rw [a2, rabs_mul, ga]; grind
  refine ⟨⟨by simp [hl], riseS_same hr.rise, fun s hs => ?_⟩, fun s hs => ?_, a1, e2⟩
  · obtain ⟨q, hq, e⟩ := mem_mapS.mp hs
    exact mem_mapS.mpr ⟨q, hr.mem q hq, e⟩
  · obtain ⟨q, hq, rfl⟩ := mem_mapS.mp hs
    have := he q hq
    rw [e2, a1]
    have e3 : errS (lvPoly r) ⟨q.x, q.y, g * q.w⟩ = errS (lvPoly r) q * g := by
      unfold errS
      simp only []; grind
    rw [e3, rabs_mul, ga]
    exact Rat.mul_le_mul_of_nonneg_right this (Rat.le_of_lt hg)
end
/-! ## how polynomials rise -/
def dev : List Rat → Rat → Rat
  | [], _ => 0
  | _ :: a, x => ev a x + x * dev a x
def slN (m : Nat) : List Rat → List Rat
  | [] => []
  | c :: a => c * ((m : Nat) : Rat) :: slN (m + 1) a
theorem slN_len (m : Nat) : ∀ a, (slN m a).length = a.length
  | [] => rfl
  | c :: a => by rw [slN, List.length_cons, slN_len (m + 1) a, List.length_cons]
theorem slN_get : ∀ (m : Nat) (a : List Rat) (k : Nat) (h : k < a.length), (slN m a)[k]'(by rw [slN_len]; exact h) = a[k] * ((m + k : Nat) : Rat)
  | m, c :: a, 0, h => rfl
  | m, c :: a, k + 1, h => by
    have := slN_get (m + 1) a k (by simpa using h)
    simp only [slN, List.getElem_cons_succ]
    rw [this, show m + 1 + k = m + (k + 1) by omega]
theorem natR_succ (m : Nat) : ((m + 1 : Nat) : Rat) = ((m : Nat) : Rat) + 1 := by
  rw [Rat.natCast_add]; rfl
theorem ev_slN : ∀ (a : List Rat) (m : Nat) (x : Rat), ev (slN m a) x = ((m : Nat) : Rat) * ev a x + x * dev a x
  | [], m, x => by rw [slN, ev_nil, dev]; grind
  | c :: a, m, x => by
    rw [slN, ev_cons, ev_slN a (m + 1) x, ev_cons, dev, natR_succ]; grind
theorem ev_pslope (a : List Rat) (x : Rat) : ev (pslope a) x = dev a x := by
  unfold pslope
  rw [ev_trim]
  cases a with
  | nil => rfl
  | cons c a =>
    have e : pslopeR (c :: a) = slN 1 a := by
      refine List.ext_getElem (by simp [pslopeR, slN_len]) fun k h1 h2 => ?_
      have hk : k < a.length := by simpa [pslopeR] using h1
      rw [slN_get 1 a k hk]
      have : (pslopeR (c :: a))[k] = at0 (c :: a) (k + 1) * ((k + 1 : Nat) : Rat) := by simp [pslopeR]
      rw [this, at0_cons_succ, at0_lt hk, show 1 + k = k + 1 by omega]
    rw [e, ev_slN, dev]
    have : ((1 : Nat) : Rat) = 1 := rfl
    rw [this]; grind
def addN : List Rat → List Rat → List Rat
  | [], b => b
  | a, [] => a
  | p :: a, q :: b => (p + q) :: addN a b
theorem ev_addN : ∀ (a b : List Rat) (x : Rat), ev (addN a b) x = ev a x + ev b x
  | [], b, x => by rw [addN, ev_nil]; grind
  | p :: a, [], x => by rw [addN, ev_nil]; grind; simp
  | p :: a, q :: b, x => by rw [addN, ev_cons, ev_cons, ev_cons, ev_addN a b x]; grind
theorem dev_addN : ∀ (a b : List Rat) (x : Rat), dev (addN a b) x = dev a x + dev b x
  | [], b, x => by rw [addN, dev]; grind
  | p :: a, [], x => by rw [addN, dev, dev]; grind; simp
  | p :: a, q :: b, x => by rw [addN, dev, dev, dev, ev_addN, dev_addN a b x]; grind
theorem dev_scaled (c : Rat) : ∀ (q : List Rat) (x : Rat), dev (q.map (c * ·)) x = c * dev q x
  | [], x => by rw [List.map_nil, dev]; grind
  | p :: q, x => by rw [List.map_cons, dev, dev, ev_scaled, dev_scaled c q x]; grind
def mulN : List Rat → List Rat → List Rat
  | [], _ => []
  | c :: a, b => addN (b.map (c * ·)) (0 :: mulN a b)
theorem ev_mulN : ∀ (a b : List Rat) (x : Rat), ev (mulN a b) x = ev a x * ev b x
  | [], b, x => by rw [mulN, ev_nil]; grind
  | c :: a, b, x => by rw [mulN, ev_addN, ev_scaled, ev_cons, ev_cons, ev_mulN a b x]; grind
theorem dev_mulN : ∀ (a b : List Rat) (x : Rat), dev (mulN a b) x = dev a x * ev b x + ev a x * dev b x
  | [], b, x => by rw [mulN, dev, ev_nil]; grind
  | c :: a, b, x => by rw [mulN, dev_addN, dev_scaled, dev, dev, ev_cons, ev_mulN, dev_mulN a b x]; grind
theorem dev_trim : ∀ (a : List Rat) (x : Rat), dev (trim a) x = dev a x
  | [], _ => rfl
  | c :: a, x => by
    have h1 := dev_trim a x
    have h2 := ev_trim a x
    have e : dev (c :: a) x = ev (trim a) x + x * dev (trim a) x := by rw [dev, h1, h2]
    rw [trim, e]
    split
    · rename_i h
      rw [h]
      split
      · rw [ev_nil]; show (0 : Rat) = 0 + x * 0; grind
      · rfl
    · rename_i h
      rw [h]; rfl
theorem dev_ext {a b : List Rat} (h : ∀ x, ev a x = ev b x) (x : Rat) : dev a x = dev b x := by
  rw [← dev_trim a, ← dev_trim b, ev_ext h]
theorem dev_pmul (a b : List Rat) (x : Rat) : dev (pmul a b) x = dev a x * ev b x + ev a x * dev b x := by
  rw [dev_ext (b := mulN a b) (fun y => by rw [ev_pmul, ev_mulN]) x, dev_mulN]
theorem dev_psum (a b : List Rat) (x : Rat) : dev (psum a b) x = dev a x + dev b x := by
  rw [dev_ext (b := addN a b) (fun y => by rw [ev_psum, ev_addN]) x, dev_addN]
theorem tr_pslope (a : List Rat) : trim (pslope a) = pslope a := trim_trim _
theorem slope_product (a b : List Rat) : pslope (pmul a b) = psum (pmul (pslope a) b) (pmul a (pslope b)) :=
  same_ev (tr_pslope _) (tr_psum _ _) fun x => by rw [ev_pslope, dev_pmul, ev_psum, ev_pmul, ev_pmul, ev_pslope, ev_pslope]
theorem dev_inp {c d : Rat} (x : Rat) : ∀ p, dev (inp [c, d] p) x = dev p (ev [c, d] x) * d
  | [] => by rw [inp, dev, dev]; grind
  | a :: r => by
    have e1 : dev [c, d] x = d := by rw [dev, dev, ev_cons, ev_nil, dev]; grind
    have e2 : dev [a] x = 0 := by rw [dev, dev, ev_nil]; grind
    rw [inp, dev_psum, dev_pmul, dev_trim, dev_trim, ev_trim, e1, e2, dev_inp x r, ev_inp, dev]; grind
theorem slope_in_place (g h : Rat) (p : List Rat) : pslope (inp (backP g h) p) = pscale (inp (backP g h) (pslope p)) (1 / g) :=
  same_ev (tr_pslope _) (tr_pscale _ _) fun x => by
    rw [ev_pslope, ev_pscale, ev_inp, ev_pslope]
    unfold backP
    exact dev_inp x p
/-! ## sizes -/
theorem fn_greatest_eq {L : Lh} {N n : Nat} {f : Nat → Rat} {k : Nat} (h : L[n]? = some (.lst (((List.range k).map fun i => rabs (f i)).map fr))) (hs : ∀ i, i < k → Sz N (f i)) (hN : N + 1 ≤ 1000000) : fn_greatest [.loc n] L = .val (fr (mxN f k)) L := by
  apply wpR.eq
  unfold fn_greatest d_greatest
  refine wp_run rfl ?_
  simp [ltR_loc h, k0, -List.map_map]
  refine wp_for (fun i Γ L' => L' = L ∧ ∃ v2, Γ = [some (.loc n), some (fr (mxN f i)), v2]) ⟨rfl, _, rfl⟩ (fun _ _ _ _ h' => by rw [h'.1]; exact h) (fun i hi Γ L' J hJ hI => ?_) (fun Γ L' hI => ?_)
  · obtain ⟨rfl, v2, rfl⟩ := hI
    have hi' : i < k := by simpa using hi
    have z := fn_is_below_eq L' (Fit.le (mxN_sz (n := i) fun j hj => hs j (by omega)) (Nat.le_trans hN (by decide))) (Fit.le (hs i hi').abs (Nat.le_trans (show N ≤ 1000000 by omega) (by decide)))
    simp [z]
    refine wp_if (fun c => ?_) (fun c => ?_)
    · have em : mxN f (i + 1) = rabs (f i) := by rw [mxN, if_pos c]
      simp
      exact hJ _ _ ⟨rfl, _, by rw [em]⟩
    · have em : mxN f (i + 1) = mxN f i := by rw [mxN, if_neg c]
      simp
      exact hJ _ _ ⟨rfl, _, by rw [em]⟩
  · obtain ⟨rfl, v2, rfl⟩ := hI
    simp
theorem fn_size_of_eq {L : Lh} {N M n : Nat} {t : List Spo} {q : List Rat} (ht : L[n]? = some (.lst (t.map spD))) (h : SzT N t) (hq : SzP M q) (hl : t.length ≤ 100) (hs : (q.length + 4) * (M + 2 * N + 6) + 10 ≤ 1000000) : fn_size_of [.loc n, pol q] L = .val (fr (mxN (errN t q) t.length)) L := by
  have m2 : q.length * (M + N + 2) + (2 * N + 6) ≤ (q.length + 4) * (M + 2 * N + 6) := by
    have := Nat.mul_le_mul (show q.length ≤ q.length by omega) (show M + N + 2 ≤ M + 2 * N + 6 by omega)
    rw [Nat.add_mul]; omega
  have esz : ∀ k, k < t.length → Sz (q.length * (M + N + 2) + 2 * N + 3) (errN t q k) := fun k hk => by
    rw [errN_at hk]; exact errS_sz (h _ (List.getElem_mem hk)) hq
  have z1 := fn_errors_of_eq ht h hq (by omega) (Nat.le_trans hs (by decide))
  apply wpR.eq
  unfold fn_size_of d_size_of
  refine wp_run rfl ?_
  have h1 := get_last (L := L) (c := .lst ((t.map (errS q)).map fr))
  have pre1 : Pre L (L ++ [.lst ((t.map (errS q)).map fr)]) := Pre.new
  simp [z1, ltR_loc h1, -List.map_map]
  rw [show L ++ [Cell.lst ((t.map (errS q)).map fr), Cell.lst []] = (L ++ [Cell.lst ((t.map (errS q)).map fr)]) ++ [Cell.lst []] by rw [List.append_assoc]; rfl, show L.length + 1 = (L ++ [Cell.lst ((t.map (errS q)).map fr)]).length by rw [List.length_append]; rfl]
  generalize hL1 : L ++ [Cell.lst ((t.map (errS q)).map fr)] = L1 at *
  refine wp_lcMap (fun k => fr (rabs (errN t q k))) (by simp; omega) (fun _ => get_app h1) (fun k hk acc => ?_) ?_
  · have hk' : k < t.length := by simpa using hk
    simp [fn_bare_eq, errN_at hk']
  · have e : (List.range ((t.map (errS q)).map fr).length).map (fun k => fr (rabs (errN t q k))) = ((List.range t.length).map fun i => rabs (errN t q i)).map fr := by simp
    rw [e]
    have h2 := get_last (L := L1) (c := .lst (((List.range t.length).map fun i => rabs (errN t q i)).map fr))
    have z2 := fn_greatest_eq h2 esz (by omega)
    simp [z2, -List.map_map]
    exact wp_truncP pre1.app (by simp) ⟨rfl, rfl⟩
def k_NOUGHT_sides : D := .tup [.int 0, .int 1]
def k_NOT_LESS : D := .int 1
def k_NOT_GREATER : D := .int (-1)
noncomputable def d_keeps_side : S3 :=
    (sSeq (sAsg (eVar 0) (gT 3 (gCons3 (gN 3) (gCons3 (gN 4) (gCons3 (gN 5) gNil3)))))
    (sSeq (sSet 6 (eCall fn_worth (aCons (eVar 2) (aCons (eVar 3) aNil))))
    (sSeq (sIf (tE (eOp fEq (eVar 1) (eC k_NOT_LESS))) (sRet (eUn uNot (eCall fn_is_below (aCons (eVar 6) (aCons (eVar 4) aNil))))) sNext)
    (sRet (eOr (eOp fNe (eVar 1) (eC k_NOT_GREATER)) (eUn uNot (eCall fn_is_below (aCons (eVar 4) (aCons (eVar 6) aNil)))))))))
noncomputable def fn_keeps_side : Fn3 := run3 3 7 d_keeps_side
noncomputable def d_keeps_sides : S3 :=
    (sRet (eCall fAll (aCons (eLc (iZp (eVar 0) (eVar 1)) (gT 2 (gCons3 (gN 3) (gCons3 (gN 4) gNil3))) tTrue (eCall fn_keeps_side (aCons (eVar 3) (aCons (eVar 4) (aCons (eVar 2) aNil)))) [3, 4]) aNil)))
noncomputable def fn_keeps_sides : Fn3 := run3 3 5 d_keeps_sides
noncomputable def d_cost : S3 :=
    (sSeq (sSet 3 (eC k_NOUGHT_sides))
    (sSeq (sFor (iZp3 (eVar 0) (eVar 1) (eVar 2)) (gT 3 (gCons3 (gT 3 (gCons3 (gN 4) (gCons3 (gN 5) (gCons3 (gN 6) gNil3)))) (gCons3 (gN 7) (gCons3 (gN 8) gNil3)))) (sIf (tAnd3 (tE (eOp fNe (eCall fn_sign (aCons (eVar 8) aNil)) (eC (.int 0)))) (tE (eOp fNe (eCall fn_sign (aCons (eVar 8) aNil)) (eVar 7)))) (sSet 3 (eCall fn_plus (aCons (eVar 3) (aCons (eCall fn_over (aCons (eCall fn_bare (aCons (eVar 8) aNil)) (aCons (eVar 6) aNil))) aNil)))) sNext))
    (sRet (eVar 3))))
noncomputable def fn_cost : Fn3 := run3 3 9 d_cost
noncomputable def d_is_witness : S3 :=
    (sSeq (sSet 3 (eCall fList (aCons (eVar 2) aNil)))
    (sSeq (sFor (iR1 (aCons (eOp fAdd (eVar 1) (eC (.int 1))) aNil)) (gN 4) (sSeq (sIf (tE (eOp fNe (eCall fn_added (aCons (eVar 3) aNil)) (eC k_NOUGHT_sides))) (sRet (eC (.bl false))) sNext)
    (sSet 3 (eLc (iZp (eVar 0) (eVar 3)) (gT 2 (gCons3 (gT 3 (gCons3 (gN 5) (gCons3 (gN 6) (gCons3 (gN 7) gNil3)))) (gCons3 (gN 8) gNil3))) tTrue (eCall fn_times (aCons (eVar 8) (aCons (eVar 5) aNil))) [8, 5, 6, 7]))))
    (sRet (eC (.bl true)))))
noncomputable def fn_is_witness : Fn3 := run3 3 9 d_is_witness
noncomputable def d_law_potS : S3 :=
    (sSeq (sSet 2 (eIf (tE (eOp fLt (eVar 1) (eCall fLen (aCons (eVar 0) aNil)))) (eOp fIx (eVar 0) (eVar 1)) (eC (.int 0))))
    (sRet (eLst (aCons (eCall fMax2 (aCons (eC (.int 0)) (aCons (eOp fSub (eCall fAbs (aCons (eVar 2) aNil)) (eOp fPow (eC (.int 10)) (eC (.int 18)))) aNil))) (aCons (eOp fAdd (eOp fAdd (eOp fMod (eCall fAbs (aCons (eVar 2) aNil)) (eC (.int 2147483563))) (eOp fMul (eC (.int 17)) (eVar 1))) (eC (.int 1))) aNil)))))
noncomputable def fn_law_potS : Fn3 := run3 2 3 d_law_potS
noncomputable def d_law_drawS : S3 :=
    (sSeq (sIf (tE (eOp fGt (eOp fIx (eVar 0) (eC (.int 0))) (eC (.int 0)))) (sSeq (sAsg (eCall fDivmod (aCons (eOp fIx (eVar 0) (eC (.int 0))) (aCons (eVar 1) aNil))) (gT 2 (gCons3 (gS (eVar 0) (eC (.int 0))) (gCons3 (gN 2) gNil3))))
    (sRet (eVar 2))) sNext)
    (sSeq (sAsg (eOp fMod (eOp fAdd (eOp fMul (eOp fIx (eVar 0) (eC (.int 1))) (eC (.int 39373))) (eC (.int 1213))) (eC (.int 2147483629))) (gS (eVar 0) (eC (.int 1))))
    (sRet (eOp fMod (eOp fFdiv (eOp fMod (eOp fMul (eOp fIx (eVar 0) (eC (.int 1))) (eOp fIx (eVar 0) (eC (.int 1)))) (eC (.int 2147483563))) (eC (.int 11))) (eVar 1)))))
noncomputable def fn_law_drawS : Fn3 := run3 2 3 d_law_drawS
noncomputable def d_law_fracS : S3 :=
    (sSeq (sPar 2 3 (eCall fAbs (aCons (eVar 0) aNil)) (eCall fAbs (aCons (eVar 1) aNil)))
    (sSeq (sWhile (tE (eOp fGt (eVar 3) (eC (.int 0)))) (sPar 2 3 (eVar 3) (eOp fMod (eVar 2) (eVar 3))))
    (sSeq (sSet 4 (eIf (tE (eOp fGt (eVar 1) (eC (.int 0)))) (eVar 2) (eUn fNeg (eVar 2))))
    (sRet (eTup (aCons (eOp fFdiv (eVar 0) (eVar 4)) (aCons (eOp fFdiv (eVar 1) (eVar 4)) aNil)))))))
noncomputable def fn_law_fracS : Fn3 := run3 2 5 d_law_fracS
noncomputable def d_law_plusS : S3 :=
    (sRet (eCall fn_law_fracS (aCons (eOp fAdd (eOp fMul (eOp fIx (eVar 0) (eC (.int 0))) (eOp fIx (eVar 1) (eC (.int 1)))) (eOp fMul (eOp fIx (eVar 1) (eC (.int 0))) (eOp fIx (eVar 0) (eC (.int 1))))) (aCons (eOp fMul (eOp fIx (eVar 0) (eC (.int 1))) (eOp fIx (eVar 1) (eC (.int 1)))) aNil))))
noncomputable def fn_law_plusS : Fn3 := run3 2 2 d_law_plusS
noncomputable def d_law_lessS : S3 :=
    (sRet (eCall fn_law_fracS (aCons (eOp fSub (eOp fMul (eOp fIx (eVar 0) (eC (.int 0))) (eOp fIx (eVar 1) (eC (.int 1)))) (eOp fMul (eOp fIx (eVar 1) (eC (.int 0))) (eOp fIx (eVar 0) (eC (.int 1))))) (aCons (eOp fMul (eOp fIx (eVar 0) (eC (.int 1))) (eOp fIx (eVar 1) (eC (.int 1)))) aNil))))
noncomputable def fn_law_lessS : Fn3 := run3 2 2 d_law_lessS
noncomputable def d_law_timesS : S3 :=
    (sRet (eCall fn_law_fracS (aCons (eOp fMul (eOp fIx (eVar 0) (eC (.int 0))) (eOp fIx (eVar 1) (eC (.int 0)))) (aCons (eOp fMul (eOp fIx (eVar 0) (eC (.int 1))) (eOp fIx (eVar 1) (eC (.int 1)))) aNil))))
noncomputable def fn_law_timesS : Fn3 := run3 2 2 d_law_timesS
noncomputable def d_law_overS : S3 :=
    (sRet (eCall fn_law_fracS (aCons (eOp fMul (eOp fIx (eVar 0) (eC (.int 0))) (eOp fIx (eVar 1) (eC (.int 1)))) (aCons (eOp fMul (eOp fIx (eVar 0) (eC (.int 1))) (eOp fIx (eVar 1) (eC (.int 0)))) aNil))))
noncomputable def fn_law_overS : Fn3 := run3 2 2 d_law_overS
noncomputable def d_law_aheadS : S3 :=
    (sRet (eOp fLt (eOp fMul (eOp fIx (eVar 0) (eC (.int 0))) (eOp fIx (eVar 1) (eC (.int 1)))) (eOp fMul (eOp fIx (eVar 1) (eC (.int 0))) (eOp fIx (eVar 0) (eC (.int 1))))))
noncomputable def fn_law_aheadS : Fn3 := run3 2 2 d_law_aheadS
noncomputable def d_law_worthS : S3 :=
    (sSeq (sSet 2 (eTup (aCons (eC (.int 0)) (aCons (eC (.int 1)) aNil))))
    (sSeq (sFor (iRev (eVar 0)) (gN 3) (sSet 2 (eCall fn_law_plusS (aCons (eCall fn_law_timesS (aCons (eVar 2) (aCons (eVar 1) aNil))) (aCons (eVar 3) aNil)))))
    (sRet (eVar 2))))
noncomputable def fn_law_worthS : Fn3 := run3 2 4 d_law_worthS
noncomputable def d_law_xsS : S3 :=
    (sSeq (sSet 2 (eOp fAdd (eC (.int 1)) (eCall fn_law_drawS (aCons (eVar 0) (aCons (eC (.int 3)) aNil)))))
    (sSeq (sSet 3 (eOp fSub (eCall fn_law_drawS (aCons (eVar 0) (aCons (eC (.int 19)) aNil))) (eC (.int 9))))
    (sSeq (sSet 4 (eLst aNil))
    (sSeq (sFor (iR1 (aCons (eVar 1) aNil)) (gN 5) (sSeq (sDrop (eMt "list" mAppend (eVar 4) (aCons (eCall fn_law_fracS (aCons (eVar 3) (aCons (eVar 2) aNil))) aNil)))
    (sSet 3 (eOp fAdd (eOp fAdd (eVar 3) (eC (.int 1))) (eCall fn_law_drawS (aCons (eVar 0) (aCons (eC (.int 3)) aNil)))))))
    (sRet (eVar 4))))))
noncomputable def fn_law_xsS : Fn3 := run3 2 6 d_law_xsS
noncomputable def d_law_degreeS : S3 :=
    (sRet (eOp fIx (eLst (aCons (eCall fn_law_drawS (aCons (eVar 0) (aCons (eC (.int 4)) aNil))) (aCons (eOp fAdd (eC (.int 4)) (eCall fn_law_drawS (aCons (eVar 0) (aCons (eC (.int 2)) aNil)))) aNil))) (eCall fIntOf (aCons (eOp fEq (eCall fn_law_drawS (aCons (eVar 0) (aCons (eC (.int 4)) aNil))) (eC (.int 3))) aNil))))
noncomputable def fn_law_degreeS : Fn3 := run3 1 1 d_law_degreeS
noncomputable def d_law_weightS : S3 :=
    (sRet (eOp fIx (eLst (aCons (eTup (aCons (eC (.int 1)) (aCons (eC (.int 1)) aNil))) (aCons (eCall fn_law_fracS (aCons (eOp fAdd (eC (.int 1)) (eCall fn_law_drawS (aCons (eVar 0) (aCons (eC (.int 9)) aNil)))) (aCons (eOp fAdd (eC (.int 1)) (eCall fn_law_drawS (aCons (eVar 0) (aCons (eC (.int 9)) aNil)))) aNil))) aNil))) (eCall fn_law_drawS (aCons (eVar 0) (aCons (eC (.int 2)) aNil)))))
noncomputable def fn_law_weightS : Fn3 := run3 1 1 d_law_weightS
noncomputable def d_law_polyS : S3 :=
    (sSeq (sSet 2 (eLc (iR1 (aCons (eOp fAdd (eVar 1) (eC (.int 1))) aNil)) (gN 3) tTrue (eTup (aCons (eOp fSub (eCall fn_law_drawS (aCons (eVar 0) (aCons (eC (.int 19)) aNil))) (eC (.int 9))) (aCons (eC (.int 1)) aNil))) [3]))
    (sSeq (sWhile (tAnd3 (tE (eOp fNe (eVar 2) (eLst aNil))) (tE (eOp fEq (eOp fIx (eVar 2) (eUn fNeg (eC (.int 1)))) (eTup (aCons (eC (.int 0)) (aCons (eC (.int 1)) aNil)))))) (sDrop (eMt0 "list" mPop (eVar 2))))
    (sRet (eCall fTuple (aCons (eVar 2) aNil)))))
noncomputable def fn_law_polyS : Fn3 := run3 2 4 d_law_polyS
noncomputable def d_law_is_witnessS : S3 :=
    (sSeq (sSet 3 (eCall fList (aCons (eVar 2) aNil)))
    (sSeq (sFor (iR1 (aCons (eOp fAdd (eVar 1) (eC (.int 1))) aNil)) (gN 4) (sSeq (sSet 5 (eTup (aCons (eC (.int 0)) (aCons (eC (.int 1)) aNil))))
    (sSeq (sFor (iLT (eVar 3)) (gN 6) (sSet 5 (eCall fn_law_plusS (aCons (eVar 5) (aCons (eVar 6) aNil)))))
    (sSeq (sIf (tE (eOp fNe (eVar 5) (eTup (aCons (eC (.int 0)) (aCons (eC (.int 1)) aNil))))) (sRet (eC (.bl false))) sNext)
    (sSet 3 (eLc (iZp (eVar 3) (eVar 0)) (gT 2 (gCons3 (gN 6) (gCons3 (gN 7) gNil3))) tTrue (eCall fn_law_timesS (aCons (eVar 6) (aCons (eOp fIx (eVar 7) (eC (.int 0))) aNil))) [6, 7]))))))
    (sRet (eC (.bl true)))))
noncomputable def fn_law_is_witnessS : Fn3 := run3 3 8 d_law_is_witnessS
noncomputable def d_law_costS : S3 :=
    (sSeq (sSet 3 (eTup (aCons (eC (.int 0)) (aCons (eC (.int 1)) aNil))))
    (sSeq (sFor (iZp3 (eVar 0) (eVar 1) (eVar 2)) (gT 3 (gCons3 (gT 3 (gCons3 (gN 4) (gCons3 (gN 5) (gCons3 (gN 6) gNil3)))) (gCons3 (gN 7) (gCons3 (gT 2 (gCons3 (gN 8) (gCons3 (gN 9) gNil3))) gNil3)))) (sIf (tOr3 (tAnd3 (tE (eOp fGt (eVar 8) (eC (.int 0)))) (tE (eOp fNe (eVar 7) (eC (.int 1))))) (tAnd3 (tE (eOp fLt (eVar 8) (eC (.int 0)))) (tE (eOp fNe (eVar 7) (eUn fNeg (eC (.int 1))))))) (sSet 3 (eCall fn_law_plusS (aCons (eVar 3) (aCons (eCall fn_law_overS (aCons (eTup (aCons (eCall fAbs (aCons (eVar 8) aNil)) (aCons (eVar 9) aNil))) (aCons (eVar 6) aNil))) aNil)))) sNext))
    (sRet (eVar 3))))
noncomputable def fn_law_costS : Fn3 := run3 3 10 d_law_costS
noncomputable def d_law_keepsS : S3 :=
    (sSeq (sFor (iZp (eVar 0) (eVar 1)) (gT 2 (gCons3 (gT 3 (gCons3 (gN 3) (gCons3 (gN 4) (gCons3 (gN 5) gNil3)))) (gCons3 (gN 6) gNil3))) (sSeq (sSet 7 (eCall fn_law_worthS (aCons (eVar 2) (aCons (eVar 3) aNil))))
    (sIf (tOr3 (tAnd3 (tE (eOp fEq (eVar 6) (eC (.int 1)))) (tE (eCall fn_law_aheadS (aCons (eVar 7) (aCons (eVar 4) aNil))))) (tAnd3 (tE (eOp fEq (eVar 6) (eUn fNeg (eC (.int 1))))) (tE (eCall fn_law_aheadS (aCons (eVar 4) (aCons (eVar 7) aNil)))))) (sRet (eC (.bl false))) sNext)))
    (sRet (eC (.bl true))))
noncomputable def fn_law_keepsS : Fn3 := run3 3 8 d_law_keepsS
noncomputable def d_law_leversS : S3 :=
    (sSeq (sSet 1 (eLst aNil))
    (sSeq (sFor (iLT (eVar 0)) (gN 2) (sSeq (sSet 3 (eTup (aCons (eC (.int 1)) (aCons (eC (.int 1)) aNil))))
    (sSeq (sFor (iLT (eVar 0)) (gN 4) (sIf (tE (eOp fNe (eVar 4) (eVar 2))) (sSet 3 (eCall fn_law_timesS (aCons (eVar 3) (aCons (eCall fn_law_lessS (aCons (eVar 2) (aCons (eVar 4) aNil))) aNil)))) sNext))
    (sDrop (eMt "list" mAppend (eVar 1) (aCons (eCall fn_law_overS (aCons (eTup (aCons (eC (.int 1)) (aCons (eC (.int 1)) aNil))) (aCons (eVar 3) aNil))) aNil))))))
    (sRet (eVar 1))))
noncomputable def fn_law_leversS : Fn3 := run3 1 5 d_law_leversS
noncomputable def d_law_numberS : S3 :=
    (sRet (eCall fn_law_fracS (aCons (eOp fSub (eCall fn_law_drawS (aCons (eVar 0) (aCons (eC (.int 19)) aNil))) (eC (.int 9))) (aCons (eOp fAdd (eC (.int 1)) (eCall fn_law_drawS (aCons (eVar 0) (aCons (eC (.int 9)) aNil)))) aNil))))
noncomputable def fn_law_numberS : Fn3 := run3 1 1 d_law_numberS
noncomputable def d_law_potA : S3 :=
    (sSeq (sSet 2 (eC (.int 0)))
    (sSeq (sIf (tE (eOp fLt (eVar 1) (eCall fLen (aCons (eVar 0) aNil)))) (sSet 2 (eOp fIx (eVar 0) (eVar 1))) sNext)
    (sRet (eLst (aCons (eCall fMax2 (aCons (eC (.int 0)) (aCons (eOp fSub (eVar 2) (eOp fPow (eC (.int 10)) (eC (.int 18)))) aNil))) (aCons (eOp fAdd (eOp fMod (eOp fAdd (eOp fAdd (eCall fAbs (aCons (eVar 2) aNil)) (eOp fMul (eC (.int 7919)) (eVar 1))) (eC (.int 11))) (eC (.int 2147483629))) (eC (.int 1))) aNil))))))
noncomputable def fn_law_potA : Fn3 := run3 2 3 d_law_potA
noncomputable def d_law_digitA : S3 :=
    (sSeq (sIf (tE (eOp fGt (eOp fIx (eVar 0) (eC (.int 0))) (eC (.int 0)))) (sSeq (sAsg (eCall fDivmod (aCons (eOp fIx (eVar 0) (eC (.int 0))) (aCons (eVar 1) aNil))) (gT 2 (gCons3 (gS (eVar 0) (eC (.int 0))) (gCons3 (gN 2) gNil3))))
    (sRet (eVar 2))) sNext)
    (sSeq (sAsg (eOp fMod (eOp fAdd (eOp fMul (eOp fIx (eVar 0) (eC (.int 1))) (eC (.int 69621))) (eC (.int 2477))) (eC (.int 2147483647))) (gS (eVar 0) (eC (.int 1))))
    (sRet (eOp fMod (eOp fFdiv (eOp fMod (eOp fMul (eOp fIx (eVar 0) (eC (.int 1))) (eOp fIx (eVar 0) (eC (.int 1)))) (eC (.int 2147483629))) (eC (.int 5))) (eVar 1)))))
noncomputable def fn_law_digitA : Fn3 := run3 2 3 d_law_digitA
noncomputable def d_law_numberA : S3 :=
    (sSeq (sSet 1 (eCall fn_law_digitA (aCons (eVar 0) (aCons (eC (.int 4)) aNil))))
    (sSeq (sIf (tE (eOp fEq (eVar 1) (eC (.int 0)))) (sRet (eOp fSub (eCall fn_law_digitA (aCons (eVar 0) (aCons (eC (.int 19)) aNil))) (eC (.int 9)))) sNext)
    (sSeq (sIf (tE (eOp fEq (eVar 1) (eC (.int 1)))) (sRet (eOp fSub (eCall fn_law_digitA (aCons (eVar 0) (aCons (eC (.int 1999)) aNil))) (eC (.int 999)))) sNext)
    (sSeq (sIf (tE (eOp fEq (eVar 1) (eC (.int 2)))) (sRet (eOp fMul (eOp fSub (eOp fSub (eOp fPow (eC (.int 10)) (eC (.int 12))) (eC (.int 1))) (eCall fn_law_digitA (aCons (eVar 0) (aCons (eC (.int 9)) aNil)))) (eOp fSub (eC (.int 1)) (eOp fMul (eC (.int 2)) (eCall fn_law_digitA (aCons (eVar 0) (aCons (eC (.int 2)) aNil))))))) sNext)
    (sRet (eOp fAdd (eOp fSub (eCall fn_law_digitA (aCons (eVar 0) (aCons (eOp fSub (eOp fMul (eC (.int 2)) (eOp fPow (eC (.int 10)) (eC (.int 12)))) (eC (.int 1))) aNil))) (eOp fPow (eC (.int 10)) (eC (.int 12)))) (eC (.int 1))))))))
noncomputable def fn_law_numberA : Fn3 := run3 1 2 d_law_numberA
noncomputable def d_law_commonA : S3 :=
    (sSeq (sPar 0 1 (eCall fAbs (aCons (eVar 0) aNil)) (eCall fAbs (aCons (eVar 1) aNil)))
    (sSeq (sWhile (tE (eOp fGt (eVar 1) (eC (.int 0)))) (sPar 0 1 (eVar 1) (eOp fMod (eVar 0) (eVar 1))))
    (sRet (eVar 0))))
noncomputable def fn_law_commonA : Fn3 := run3 2 2 d_law_commonA
noncomputable def d_law_madeA : S3 :=
    (sSeq (sSet 2 (eCall fn_law_commonA (aCons (eVar 0) (aCons (eVar 1) aNil))))
    (sSeq (sIf (tE (eOp fLt (eVar 1) (eC (.int 0)))) (sSet 2 (eUn fNeg (eVar 2))) sNext)
    (sRet (eTup (aCons (eOp fFdiv (eVar 0) (eVar 2)) (aCons (eOp fFdiv (eVar 1) (eVar 2)) aNil))))))
noncomputable def fn_law_madeA : Fn3 := run3 2 3 d_law_madeA
noncomputable def d_law_drawnA : S3 :=
    (sSeq (sSet 1 (eCall fn_law_numberA (aCons (eVar 0) aNil)))
    (sSeq (sIf (tE (eOp fEq (eCall fn_law_digitA (aCons (eVar 0) (aCons (eC (.int 2)) aNil))) (eC (.int 0)))) (sRet (eTup (aCons (eVar 1) (aCons (eC (.int 1)) aNil)))) sNext)
    (sRet (eCall fn_law_madeA (aCons (eVar 1) (aCons (eCall fMax2 (aCons (eC (.int 1)) (aCons (eCall fAbs (aCons (eCall fn_law_numberA (aCons (eVar 0) aNil)) aNil)) aNil))) aNil))))))
noncomputable def fn_law_drawnA : Fn3 := run3 1 2 d_law_drawnA
noncomputable def d_law_is_aheadA : S3 :=
    (sRet (eOp fLt (eOp fMul (eOp fIx (eVar 0) (eC (.int 0))) (eOp fIx (eVar 1) (eC (.int 1)))) (eOp fMul (eOp fIx (eVar 1) (eC (.int 0))) (eOp fIx (eVar 0) (eC (.int 1))))))
noncomputable def fn_law_is_aheadA : Fn3 := run3 2 2 d_law_is_aheadA
noncomputable def d_law_timesA : S3 :=
    (sRet (eCall fn_law_madeA (aCons (eOp fMul (eOp fIx (eVar 0) (eC (.int 0))) (eOp fIx (eVar 1) (eC (.int 0)))) (aCons (eOp fMul (eOp fIx (eVar 0) (eC (.int 1))) (eOp fIx (eVar 1) (eC (.int 1)))) aNil))))
noncomputable def fn_law_timesA : Fn3 := run3 2 2 d_law_timesA
theorem law_digitA {m : Int} {n : Nat} {L : Lh} {Q : D → Lh → Prop} {E : Str → Lh → Prop} (hp : PotAt L n) (h0 : 0 < m) (hm : m < 2 ^ 60)
    (h : ∀ d L', 0 ≤ d → d < m → Grow n L L' → PotAt L' n → Q (.int d) L') : wpR (fn_law_digitA [.loc n, .int m] L) Q E :=
  wp_draw (A := 69621) (B := 2477) (M := 2147483647) (M2 := 2147483629) (V := 5) (by decide) (by decide) (by decide) (by decide) (by decide) hp h0 hm h
theorem law_potA {ns : List Int} {k : Nat} {L : Lh} {Q : D → Lh → Prop} {E : Str → Lh → Prop} (hk : k ≤ 1000) (h : ∀ c, PotAt (L ++ [c]) L.length → Q (.loc L.length) (L ++ [c])) : wpR (fn_law_potA [.rol (ns.map D.int), .int k] L) Q E := by
  have key : ∀ c : Int, ∃ p q : Int, (0 ≤ p ∧ 0 ≤ q ∧ q < 4294967296) ∧ (if c - 1000000000000000000 > 0 then c - 1000000000000000000 else 0) = p ∧ ((c.natAbs : Int) + 7919 * k + 11).fmod 2147483629 + 1 = q := fun c => by
    have e := Int.fmod_eq_emod_of_nonneg ((c.natAbs : Int) + 7919 * k + 11) (show (0 : Int) ≤ 2147483629 by decide)
    exact ⟨_, _, ⟨by split <;> omega, by omega, by omega⟩, rfl, rfl⟩
  have m1 : CMulX 7919 (k : Int) := cmulS (by omega) (by omega)
  have pw : CPow 10 18 := ⟨by decide, by decide, by decide⟩
  have fin : ∀ c : Int, ∀ p q : Int, (0 ≤ p ∧ 0 ≤ q ∧ q < 4294967296) → wpR (trunc L (.loc L.length) (L ++ [.lst [.int p, .int q]])) Q E := fun c p q hpq => by
    rw [wp_truncN rfl]
    exact h _ ⟨p, q, by simp, hpq⟩
  unfold fn_law_potA d_law_potA
  refine wp_run rfl ?_
  by_cases hlt : k < ns.length
  · obtain ⟨p, q, hpq, e1, e2⟩ := key ns[k]
    have ha : L2.atI (ns.map D.int) (k : Int) = some (.int ns[k]) := by
      rw [atI_some (xs := ns.map D.int) (k := k) (by simpa using hlt)]; simp
    have e1' : (if 1000000000000000000 < ns[k] then ns[k] - 1000000000000000000 else 0) = p := by rw [← e1]; split <;> split <;> omega
    simp [fIx, hlt, ha, abs_if, m1, pw, e2, e1']
    have := fin 0 p q hpq
    simpa using this
  · obtain ⟨p, q, hpq, e1, e2⟩ := key 0
    have e2' : ((7919 * (k : Int)) + 11).fmod 2147483629 + 1 = q := by simpa using e2
    obtain rfl : p = 0 := by rw [← e1]; rfl
    simp [hlt, m1, pw, e2']
    have := fin 0 0 q hpq
    simpa using this
theorem law_numberA {n : Nat} {L : Lh} {Q : D → Lh → Prop} {E : Str → Lh → Prop} (hp : PotAt L n) (h : ∀ (d : Int) L', d.natAbs < 10 ^ 12 → Grow n L L' → PotAt L' n → Q (.int d) L') : wpR (fn_law_numberA [.loc n] L) Q E := by
  have p12 : CPow 10 12 := ⟨by decide, by decide, by decide⟩
  have c2 : CMulX 2 1000000000000 := cmulS (by decide) (by decide)
  unfold fn_law_numberA d_law_numberA
  refine wp_run rfl ?_
  simp [-Po.seq_nx]
  refine law_digitA (m := 4) hp (by decide) (by decide) fun c L1 c0 c1 g1 p1 => ?_
  simp [-Po.seq_nx]
  rw [Po.seq_nx, wp_sSeq]
  simp [-Po.seq_nx]
  refine wp_if (fun z => ?_) (fun z => ?_)
  · simp
    refine law_digitA (m := 19) p1 (by decide) (by decide) fun d L2 d0 d1 g2 p2 => ?_
    simp
    exact wp_truncG (by simp) (g1.trans g2) p2 hp.lt fun L'' g p => h _ _ (by omega) g p
  simp [-Po.seq_nx]
  rw [Po.seq_nx, wp_sSeq]
  simp [-Po.seq_nx]
  refine wp_if (fun z => ?_) (fun z => ?_)
  · simp
    refine law_digitA (m := 1999) p1 (by decide) (by decide) fun d L2 d0 d1 g2 p2 => ?_
    simp
    exact wp_truncG (by simp) (g1.trans g2) p2 hp.lt fun L'' g p => h _ _ (by omega) g p
  simp [-Po.seq_nx]
  rw [Po.seq_nx, wp_sSeq]
  simp [-Po.seq_nx]
  refine wp_if (fun z => ?_) (fun z => ?_)
  · simp [p12]
    refine law_digitA (m := 9) p1 (by decide) (by decide) fun d L2 d0 d1 g2 p2 => ?_
    simp
    refine law_digitA (m := 2) p2 (by decide) (by decide) fun e L3 e0 e1 g3 p3 => ?_
    have m1 : CMulX 2 e := cmulS (by decide) (by omega)
    have m2 : CMulX (999999999999 - d) (1 - 2 * e) := cmulS (by omega) (by omega)
    simp [m1, m2]
    refine wp_truncG (by simp) ((g1.trans g2).trans g3) p3 hp.lt fun L'' g p => h _ _ ?_ g p
    rcases (show e = 0 ∨ e = 1 by omega) with rfl | rfl <;> omega
  · simp [-Po.seq_nx]
    rw [Po.seq_nx]
    simp [p12, c2]
    refine law_digitA (m := 1999999999999) p1 (by decide) (by decide) fun d L2 d0 d1 g2 p2 => ?_
    simp [p12]
    exact wp_truncG (by simp) (g1.trans g2) p2 hp.lt fun L'' g p => h _ _ (by omega) g p
theorem fn_law_commonA_eq {a b : Int} (L : Lh) : fn_law_commonA [.int a, .int b] L = .val (.int (Int.gcd a b)) L := by
  have gg : Int.gcd (a.natAbs : Int) (b.natAbs : Int) = Int.gcd a b := by simp [Int.gcd]
  apply wpR.eq
  unfold fn_law_commonA d_law_commonA
  refine wp_run rfl ?_
  simp [abs_if]
  refine wp_while (fun m Γ L' => ∃ x : Int, 0 ≤ x ∧ Γ = [some (.int x), some (.int m)] ∧ L' = L ∧ Int.gcd x m = Int.gcd a b) b.natAbs ⟨a.natAbs, by omega, rfl, rfl, gg⟩ (fun m Γ L' h => ?_)
  obtain ⟨x, hx, rfl, rfl, hgx⟩ := h
  simp
  by_cases hm : m = 0
  · subst hm
    have hx2 : x = (Int.gcd a b : Int) := by rw [← hgx]; simp [Int.gcd]; omega
    subst hx2
    simp
  · have hm0 : (0 : Int) < (m : Int) := by omega
    have hnn := Int.emod_nonneg x (show (m : Int) ≠ 0 by omega)
    have hlt := Int.emod_lt_of_pos x hm0
    have e1 : x.fmod (m : Int) = ((x % (m : Int)).toNat : Int) := by
      rw [Int.fmod_eq_emod_of_nonneg _ (by omega), Int.toNat_of_nonneg hnn]
    have hm1 : 0 < m := by omega
    simp [hm1, hm]
    refine ⟨(x % (m : Int)).toNat, by omega, m, by omega, ⟨rfl, e1⟩, ?_⟩
    rw [Int.toNat_of_nonneg hnn, ← gcd_step hx hm0, hgx]
theorem fn_law_madeA_eq {a b : Int} (L : Lh) (hb : b ≠ 0) : fn_law_madeA [.int a, .int b] L = .val (fr (Rat.divInt a b)) L := by
  have hg := gcd_pos (a := a) hb
  apply wpR.eq
  unfold fn_law_madeA d_law_madeA
  refine wp_run rfl ?_
  simp [fn_law_commonA_eq]
  refine wp_if (fun hb0 => ?_) (fun hb0 => ?_)
  · have e := frac_gcd a b hb (-(Int.gcd a b : Int)) (by rw [if_pos hb0])
    have c2 : Int.gcd a b ≠ 0 := by omega
    simp [c2, e]
  · have e := frac_gcd a b hb (Int.gcd a b : Int) (by rw [if_neg hb0])
    have c2 : Int.gcd a b ≠ 0 := by omega
    simp [c2, e]
theorem law_drawnA {n : Nat} {L : Lh} {Q : D → Lh → Prop} {E : Str → Lh → Prop} (hp : PotAt L n) (h : ∀ q L', Sz 41 q → Grow n L L' → PotAt L' n → Q (fr q) L') : wpR (fn_law_drawnA [.loc n] L) Q E := by
  unfold fn_law_drawnA d_law_drawnA
  refine wp_run rfl ?_
  simp
  refine law_numberA hp fun a L1 ha g1 p1 => ?_
  simp
  refine law_digitA (m := 2) p1 (by decide) (by decide) fun d L2 d0 d1 g2 p2 => ?_
  simp
  refine wp_if (fun z => ?_) (fun z => ?_)
  · simp [fr_irat]
    exact wp_truncG (by simp) (g1.trans g2) p2 hp.lt fun L'' g p => h _ _ (sz_int (by omega) (by omega)) g p
  · simp
    refine law_numberA p2 fun b L3 hb g3 p3 => ?_
    have e : ∃ c : Int, c ≠ 0 ∧ c.natAbs < 10 ^ 12 ∧ (if 1 < (b.natAbs : Int) then (b.natAbs : Int) else 1) = c := ⟨_, by split <;> omega, by split <;> omega, rfl⟩
    obtain ⟨c, c0, c1, e⟩ := e
    simp [abs_if, e, fn_law_madeA_eq _ c0]
    exact wp_truncG (by simp) ((g1.trans g2).trans g3) p3 hp.lt fun L'' g p => h _ _ (divInt_sz c0 (by omega) (by omega)) g p
theorem fn_law_timesA_eq {p q : Rat} (L : Lh) (hp : Fit p) (hq : Fit q) : fn_law_timesA [fr p, fr q] L = .val (fr (p * q)) L := by
  have z := fn_law_madeA_eq (a := p.num * q.num) L (dens_ne p q)
  rw [rat_mul] at z
  apply wpR.eq
  unfold fn_law_timesA d_law_timesA
  refine wp_run rfl ?_
  simp [hp.1, hp.2, hq.1, hq.2, -fMul, z]
theorem fn_law_is_aheadA_eq (L : Lh) {p q : Rat} (hp : Fit p) (hq : Fit q) : fn_law_is_aheadA [fr p, fr q] L = .val (.bl (decide (p < q))) L := by
  have e := rat_lt_num p q
  apply wpR.eq
  unfold fn_law_is_aheadA d_law_is_aheadA
  refine wp_run rfl ?_
  simp [hp.1, hp.2, hq.1, hq.2, -fMul]
  simp [e]
/-- a comprehension that picks, what it makes on its way left behind -/
theorem wp_lcFilP {α : Type} {chk : Lh → Prop} {g : Tg3} {t : T3} {e : E3} {Γ0 : G3} {as : List α} {d : α → D} (p : α → Bool) {Q : D → Lh → Prop} {E : Str → Lh → Prop} {L : Lh} (hl : as.length ≤ 100000) (hc : ∀ L', Pre L L' → chk L')
    (step : ∀ a ∈ as, ∀ L1, Pre L L1 → wpS (g (d a) Γ0 L1) ⟨fun Γ1 L1' => wpR (t Γ1 L1') (fun b L2 => b = p a ∧ Pre L1 L2 ∧ wpR (e Γ1 L2) (fun y L3 => y = d a ∧ Pre L2 L3) noE) noE, fun _ _ => False, fun _ _ => False, fun _ _ => False, fun _ _ _ => False⟩)
    (hn : ∀ L', L'[L.length]? = some (.lst ((as.filter p).map d)) → Pre L L' → Q (.loc L.length) L') : wpR (lcL chk g t e Γ0 L.length (as.map d) (L ++ [.lst []])) Q E := by
  refine wp_lc (fun i ys L' => ys = ((as.take i).filter p).map d ∧ Pre L L') ⟨by simp, Pre.new⟩ get_last (fun i ys L' hi hL h => hc _ h.2) (fun i hi ys L' hL h => ?_) (fun ys L' hL h => ?_)
  · obtain ⟨h1, pre⟩ := h
    have hi' : i < as.length := by simpa using hi
    have s := step as[i] (List.getElem_mem hi') L' pre
    have ea : (as.map d)[i] = d as[i] := List.getElem_map d
    have tk : as.take (i + 1) = as.take i ++ [as[i]] := by rw [List.take_succ_eq_append_getElem hi']
    have yl : ys.length ≤ 100000 := by
      rw [h1, List.length_map]
      have a := List.length_filter_le p (as.take i)
      have b : (as.take i).length ≤ as.length := by rw [List.length_take]; omega
      omega
    rw [ea]
    generalize as[i] = a at *
    cases hg : g (d a) Γ0 L' with
    | nx Γ1 L1 =>
      rw [hg] at s
      have s : wpR (t Γ1 L1) (fun b L2 => b = p a ∧ Pre L' L2 ∧ wpR (e Γ1 L2) (fun y L3 => y = d a ∧ Pre L2 L3) noE) noE := s
      simp only [wpS_nx]
      refine s.mono (fun b L2 q => ?_) (fun _ _ q => q)
      obtain ⟨rfl, pre2, q⟩ := q
      by_cases hp : p a = true
      · rw [if_pos hp]
        refine q.mono (fun y L3 q => ?_) (fun _ _ q => q)
        obtain ⟨rfl, pre3⟩ := q
        refine ⟨(pre2.trans pre3).get hL, yl, ?_, ((pre.trans pre2).trans pre3).set (Nat.le_refl _)⟩
        rw [tk, List.filter_append, List.map_append, ← h1]; simp [hp]
      · rw [if_neg hp]
        refine ⟨pre2.get hL, ?_, pre.trans pre2⟩
        rw [tk, List.filter_append, List.map_append, ← h1]; simp [hp]
    | exn c Γ1 L1 => rw [hg] at s; exact s.elim
    | ret _ _ => rw [hg] at s; exact s.elim
    | brk _ _ => rw [hg] at s; exact s.elim
    | ct _ _ => rw [hg] at s; exact s.elim
    | stuck => rw [hg] at s; exact s.elim
  · obtain ⟨h1, pre⟩ := h
    refine hn L' ?_ pre
    rw [hL, h1]; simp
/-- .. that maps -/
theorem wp_lcMapP {chk : Lh → Prop} {g : Tg3} {e : E3} {Γ0 : G3} {xs : List D} {Q : D → Lh → Prop} {E : Str → Lh → Prop} {L : Lh} (f : Nat → D) (hl : xs.length ≤ 100000) (hc : ∀ L', Pre L L' → chk L')
    (step : ∀ i (h : i < xs.length) L1, Pre L L1 → wpS (g xs[i] Γ0 L1) ⟨fun Γ1 L1' => wpR (e Γ1 L1') (fun y L2 => y = f i ∧ Pre L1 L2) noE, fun _ _ => False, fun _ _ => False, fun _ _ => False, fun _ _ _ => False⟩)
    (hn : ∀ L', L'[L.length]? = some (.lst ((List.range xs.length).map f)) → Pre L L' → Q (.loc L.length) L') : wpR (lcL chk g tTrue e Γ0 L.length xs (L ++ [.lst []])) Q E := by
  refine wp_lc (fun i ys L' => ys = (List.range i).map f ∧ Pre L L') ⟨by simp, Pre.new⟩ get_last (fun i ys L' hi hL h => hc _ h.2) (fun i hi ys L' hL h => ?_) (fun ys L' hL h => ?_)
  · obtain ⟨h1, pre⟩ := h
    have s := step i hi L' pre
    cases hg : g xs[i] Γ0 L' with
    | nx Γ1 L1 =>
      rw [hg] at s
      have s : wpR (e Γ1 L1) (fun y L2 => y = f i ∧ Pre L' L2) noE := s
      simp only [wpS_nx, tTrue, wpR_val, if_true]
      refine s.mono (fun y L2 q => ?_) (fun _ _ q => q)
      obtain ⟨rfl, pre2⟩ := q
      refine ⟨pre2.get hL, by rw [h1]; simp; omega, ?_, (pre.trans pre2).set (Nat.le_refl _)⟩
      rw [h1, List.range_succ]; simp
    | exn c Γ1 L1 => rw [hg] at s; exact s.elim
    | ret _ _ => rw [hg] at s; exact s.elim
    | brk _ _ => rw [hg] at s; exact s.elim
    | ct _ _ => rw [hg] at s; exact s.elim
    | stuck => rw [hg] at s; exact s.elim
  · obtain ⟨h1, pre⟩ := h
    refine hn L' ?_ pre
    rw [hL, h1]
/-- whole numbers from 0 on as fractions -/
def natsR (n : Nat) : List Rat := (List.range n).map fun k => ((k : Nat) : Rat)
theorem pigeon : ∀ {xs ys : List Rat}, xs.Nodup → ys.length < xs.length → ∃ x ∈ xs, x ∉ ys
  | [], ys, _, h => absurd h (by simp)
  | x :: xs, ys, hn, h => by
    by_cases hx : x ∈ ys
    · rw [List.nodup_cons] at hn
      obtain ⟨z, hz, hzy⟩ := pigeon (ys := ys.erase x) hn.2 (by rw [List.length_erase_of_mem hx]; have := List.length_pos_of_mem hx; simp at h; omega)
      refine ⟨z, List.mem_cons_of_mem _ hz, fun hzz => hzy ?_⟩
      have ne : z ≠ x := fun e => hn.1 (by rw [← e]; exact hz)
      exact (List.mem_erase_of_ne ne).mpr hzz
    · exact ⟨x, by simp, hx⟩
theorem natsR_nodup (n : Nat) : (natsR n).Nodup := by
  unfold natsR
  refine List.Pairwise.map _ (fun a b hab z => hab ?_) List.nodup_range
  have := natR_inj z; omega
theorem fresh {as : List Rat} {n : Nat} {ys : List Rat} (h : ys.length < n) : 0 < ((as ++ natsR n).filter fun q => !decide (q ∈ ys)).length := by
  obtain ⟨x, hx, hy⟩ := pigeon (natsR_nodup n) (ys := ys) (by simpa [natsR] using h)
  exact List.length_pos_of_mem (a := x) (List.mem_filter.mpr ⟨List.mem_append_right _ hx, by simp [hy]⟩)
theorem notInF {L : Lh} {m : Nat} {q : Rat} {ys : List Rat} [i : Decidable (q ∈ ys)] (h : L[m]? = some (.lst (ys.map fr))) : fIn true (fr q) (.loc m) L = .val (.bl (!decide (q ∈ ys))) L := by
  have z : fIn true (fr q) (.loc m) L = _ := (encF.inL (a := q) h).2
  rw [z, dec_irr (p := q ∈ ys) (j := i)]
/-! lists of lists, compared -/
section
variable {α : Type} (e : Enc α)
def pLL (ass : List (List α)) : List PyData := ass.map fun as => .list (as.map e.p)
/-- the cells at these places hold these lists -/
def AtLL (L : Lh) : List Nat → List (List α) → Prop
  | [], [] => True
  | j :: js, as :: ass => L[j]? = some (.lst (as.map e.d)) ∧ AtLL L js ass
  | _, _ => False
theorem AtLL.opts {L : Lh} {m : Nat} (hm : e.k + 1 ≤ m) : ∀ {js : List Nat} {ass : List (List α)}, AtLL e L js ass → G.opts (G.dat m L) (js.map D.loc) = some (pLL e ass)
  | [], [], _ => rfl
  | j :: js, as :: ass, h => opts_cons (e.datL h.1 hm) (AtLL.opts hm h.2)
theorem AtLL.dat {L : Lh} {n m : Nat} {js : List Nat} {ass : List (List α)} (hn : L[n]? = some (.lst (js.map D.loc))) (h : AtLL e L js ass) (hm : e.k + 2 ≤ m) : G.dat m L (.loc n) = some (.list (pLL e ass)) := by
  obtain ⟨m, rfl⟩ : ∃ j, m = j + 1 := ⟨m - 1, by omega⟩
  rw [dat_loc hn, h.opts e (by omega)]; rfl
theorem pLL_lay : ∀ ass : List (List α), PyData.canLayAll0 (pLL e ass) = true
  | [] => by simp [pLL, PyData.canLayAll0]
  | as :: ass => by
    show PyData.canLayAll0 (PyData.list (as.map e.p) :: pLL e ass) = true
    simp only [PyData.canLayAll0, PyData.canLay0, e.lays as, pLL_lay ass, Bool.and_self]
theorem pLL_dep : ∀ ass : List (List α), PyData.depthAll (pLL e ass) ≤ e.k + 1
  | [] => by simp [pLL, PyData.depthAll]
  | as :: ass => by
    show PyData.depthAll (PyData.list (as.map e.p) :: pLL e ass) ≤ _
    have h1 := e.deps as
    have h2 := pLL_dep ass
    simp only [PyData.depthAll, PyData.depth]
    omega
theorem pLL_shaped (hk : e.k ≤ 6) (ass : List (List α)) : SeqAt.shaped (.list (pLL e ass)) = true := by
  have := pLL_dep e ass
  unfold SeqAt.shaped
  rw [Bool.and_eq_true]
  exact ⟨by simp only [PyData.canLay0]; exact pLL_lay e ass, decide_eq_true (by simp only [PyData.depth]; omega)⟩
theorem pLL_eqv : ∀ ass bss : List (List α), PyData.eqvAll (pLL e ass) (pLL e bss) = decide (ass = bss)
  | [], [] => by simp [pLL]
  | [], b :: bs => by simp [pLL]
  | a :: as, [] => by simp [pLL]
  | a :: as, b :: bs => by
    show PyData.eqvAll (PyData.list (a.map e.p) :: pLL e as) (PyData.list (b.map e.p) :: pLL e bs) = _
    rw [eqv_cons, pLL_eqv as bs, eqv_list, e.eqvs]
    by_cases h : a = b <;> by_cases h2 : as = bs <;> simp [h, h2]
theorem Enc.eqLL {L : Lh} {n m : Nat} {js ks : List Nat} {ass bss : List (List α)} (hn : L[n]? = some (.lst (js.map D.loc))) (hm : L[m]? = some (.lst (ks.map D.loc))) (h1 : AtLL e L js ass) (h2 : AtLL e L ks bss) (hk : e.k ≤ 6 := by decide) [i : Decidable (ass = bss)] :
    fEq (.loc n) (.loc m) L = .val (.bl (decide (ass = bss))) L ∧ fNe (.loc n) (.loc m) L = .val (.bl (!decide (ass = bss))) L :=
  eqD_of (h1.dat e hn (by omega)) (h2.dat e hm (by omega)) (pLL_shaped e hk ass) (pLL_shaped e hk bss) ((eqv_list _ _).trans ((pLL_eqv e ass bss).trans dec_irr))
theorem Enc.eqLLs {L : Lh} {n m : Nat} {js ks : List Nat} {ass : List (List α)} (hn : L[n]? = some (.lst (js.map D.loc))) (hm : L[m]? = some (.lst (ks.map D.loc))) (h1 : AtLL e L js ass) (h2 : AtLL e L ks ass) (hk : e.k ≤ 6 := by decide) :
    fEq (.loc n) (.loc m) L = .val (.bl true) L ∧ fNe (.loc n) (.loc m) L = .val (.bl false) L := by
  have := e.eqLL hn hm h1 h2 hk
  rw [decide_eq_true rfl] at this
  exact this
end
theorem AtLL.app {α : Type} {e : Enc α} {L X : Lh} : ∀ {js : List Nat} {ass : List (List α)}, AtLL e L js ass → AtLL e (L ++ X) js ass
  | [], [], _ => trivial
  | j :: js, as :: ass, h => ⟨get_app h.1, AtLL.app h.2⟩
theorem AtLL.pre {α : Type} {e : Enc α} {L L' : Lh} (p : Pre L L') : ∀ {js : List Nat} {ass : List (List α)}, AtLL e L js ass → AtLL e L' js ass
  | [], [], _ => trivial
  | j :: js, as :: ass, h => ⟨p.get h.1, AtLL.pre p h.2⟩
/-- in a tuple of two spots, or not -/
theorem fInDT_two {L : Lh} (neg : Bool) (s a b : Spo) : ∃ r, fInDT neg (spD s) (.tup [spD a, spD b]) L = .val (.bl r) L := by
  have h1 := encS.dat L s 8 (by decide)
  have h2 : G.dat 8 L (.tup [spD a, spD b]) = some (.tuple [encS.p a, encS.p b]) := (encL encS).dat L [a, b] 8 (by decide)
  have s1 : SeqAt.shaped (encS.p s) = true := encS.shaped (by decide) s
  have s2 : SeqAt.shaped (.tuple [encS.p a, encS.p b]) = true := (encL encS).shaped (by decide) [a, b]
  unfold fInDT
  have e1 : G.dat 8 L (spD s) = some (encS.p s) := h1
  simp only [e1, h2, s1, s2]
  exact ⟨_, rfl⟩
/-! ## what repr shows: data of numbers that are not too long -/
structure Fine (N b k : Nat) (d : PyData) : Prop where
  sh : d.showable = true
  nd : d.hasDict = false
  lf : d.leavesShort (N + 8) = true
  bu : d.bulk ≤ b
  de : d.depth ≤ k
theorem Fine.mono {N b b' k k' : Nat} {d : PyData} (h : Fine N b k d) (h1 : b ≤ b') (h2 : k ≤ k') : Fine N b' k' d := ⟨h.sh, h.nd, h.lf, Nat.le_trans h.bu h1, Nat.le_trans h.de h2⟩
theorem shown_int_len {N : Nat} {i : Int} (hN : 0 < N) (h : i.natAbs < 2 ^ N) : (PyData.shown (.int i)).length ≤ N + 1 := by
  have hl : i.natAbs.log2 < N := by
    by_cases h0 : i.natAbs = 0
    · rw [h0]; simpa using hN
    · exact (Nat.log2_lt h0).mpr h
  have e : (PyData.int i).shown = ((toString i : String) : Str) := PyData.shown_int i
  rw [e, PySem.ofString_length]
  exact int_text_length_le hN hl
theorem fine_int {N : Nat} {i : Int} (hN : 0 < N) (hN2 : N ≤ 1900) (h : i.natAbs < 2 ^ N) : Fine N 0 0 (.int i) := by
  have hl : i.natAbs.log2 < N := by
    by_cases h0 : i.natAbs = 0
    · rw [h0]; simpa using hN
    · exact (Nat.log2_lt h0).mpr h
  have hs := shown_int_len hN h
  refine ⟨?_, rfl, ?_, Nat.le_refl _, Nat.le_refl _⟩
  · simp only [PyData.showable, decide_eq_true_eq]; omega
  · simp only [PyData.leavesShort, decide_eq_true_eq]; omega
theorem fine_all {N b k : Nat} : ∀ {ds : List PyData}, (∀ d ∈ ds, Fine N b k d) → PyData.showableAll ds = true ∧ PyData.hasDictAll ds = false ∧ PyData.leavesShortAll (N + 8) ds = true ∧ PyData.bulkAll ds ≤ (b + 1) * ds.length ∧ PyData.depthAll ds ≤ k
  | [], _ => ⟨rfl, rfl, rfl, Nat.zero_le _, Nat.zero_le _⟩
  | d :: ds, h => by
    obtain ⟨a1, a2, a3, a4, a5⟩ := fine_all (ds := ds) fun x hx => h x (List.mem_cons_of_mem _ hx)
    have f := h d (by simp)
    have h1 := f.sh
    have h2 := f.nd
    have h3 := f.lf
    have h4 := f.bu
    have h5 := f.de
    refine ⟨by simp [PyData.showableAll, h1, a1], by simp [PyData.hasDictAll, h2, a2], by simp [PyData.leavesShortAll, h3, a3], ?_, ?_⟩
    · rw [PyData.bulkAll, List.length_cons, Nat.mul_succ]; omega
    · rw [PyData.depthAll]; omega
theorem Fine.tuple {N b k n : Nat} {ds : List PyData} (h : ∀ d ∈ ds, Fine N b k d) (hn : ds.length ≤ n) : Fine N ((b + 1) * n) (k + 1) (.tuple ds) := by
  obtain ⟨a1, a2, a3, a4, a5⟩ := fine_all h
  have := Nat.mul_le_mul_left (b + 1) hn
  exact ⟨by simpa [PyData.showable] using a1, by simpa [PyData.hasDict] using a2, by simpa [PyData.leavesShort] using a3, by rw [PyData.bulk]; omega, by rw [PyData.depth]; omega⟩
theorem Fine.list {N b k n : Nat} {ds : List PyData} (h : ∀ d ∈ ds, Fine N b k d) (hn : ds.length ≤ n) : Fine N ((b + 1) * n) (k + 1) (.list ds) := by
  obtain ⟨a1, a2, a3, a4, a5⟩ := fine_all h
  have := Nat.mul_le_mul_left (b + 1) hn
  exact ⟨by simpa [PyData.showable] using a1, by simpa [PyData.hasDict] using a2, by simpa [PyData.leavesShort] using a3, by rw [PyData.bulk]; omega, by rw [PyData.depth]; omega⟩
theorem fine_fr {N : Nat} {q : Rat} (hN : 0 < N) (hN2 : N ≤ 1900) (h : Sz N q) : Fine N 2 1 (datF q) := by
  have a := fine_int hN hN2 h.1
  have b := fine_int hN hN2 h.2
  exact (Fine.tuple (n := 2) (ds := [.int q.num, .int q.den]) (fun d hd => by
    rcases List.mem_cons.mp hd with rfl | hd
    · exact a
    · rw [List.mem_singleton.mp hd]; exact b) (Nat.le_refl 2)).mono (by decide) (by decide)
theorem fine_spot {N : Nat} {s : Spo} (hN : 0 < N) (hN2 : N ≤ 1900) (h : Sz N s.x ∧ Sz N s.y ∧ Sz N s.w) : Fine N 9 2 (encS.p s) := by
  obtain ⟨a, b, c⟩ := h
  exact (Fine.tuple (n := 3) (ds := [datF s.x, datF s.y, datF s.w]) (fun d hd => by
    rcases List.mem_cons.mp hd with rfl | hd
    · exact fine_fr hN hN2 a
    · rcases List.mem_cons.mp hd with rfl | hd
      · exact fine_fr hN hN2 b
      · rw [List.mem_singleton.mp hd]; exact fine_fr hN hN2 c) (Nat.le_refl 3)).mono (by decide) (by decide)
theorem fine_pol {N n : Nat} {q : List Rat} (hN : 0 < N) (hN2 : N ≤ 1900) (h : SzP N q) (hl : q.length ≤ n) : Fine N (3 * n) 2 (.tuple (q.map datF)) :=
  Fine.tuple (b := 2) (k := 1) (fun d hd => by
    obtain ⟨x, hx, rfl⟩ := List.mem_map.mp hd
    exact fine_fr hN hN2 (h x hx)) (by simpa using hl)
theorem fine_table {N n : Nat} {t : List Spo} (hN : 0 < N) (hN2 : N ≤ 1900) (h : SzT N t) (hl : t.length ≤ n) : Fine N (10 * n) 3 (.list (t.map encS.p)) :=
  Fine.list (b := 9) (k := 2) (fun d hd => by
    obtain ⟨x, hx, rfl⟩ := List.mem_map.mp hd
    exact fine_spot hN hN2 (h x hx)) (by simpa using hl)
theorem Fine.ok {N b k : Nat} {d : PyData} (h : Fine N b k d) (hs : (N + 10) * b + N + 8 ≤ 16777216) (hk : k ≤ 20) : reprOk d := by
  have a := PyData.shown_le_bulk (N + 8) (by omega) d h.lf
  have m := Nat.mul_le_mul_left (N + 8 + 2) h.bu
  have e : sizeLine = 16777216 := sizeLine_eq
  rw [show N + 8 + 2 = N + 10 from rfl] at a m
  refine ⟨h.sh, h.nd, Nat.le_trans h.de hk, ?_⟩
  rw [e]
  omega
/-- a table and a polynomial, shown -/
noncomputable def shTP (t : List Spo) (q : List Rat) : Str := PyData.shown (.tuple [.list (t.map encS.p), .tuple (q.map datF)])
noncomputable def shT (t : List Spo) : Str := PyData.shown (.list (t.map encS.p))
theorem fRepr_TP {L : Lh} {N m : Nat} {t : List Spo} {q : List Rat} (ht : L[m]? = some (.lst (t.map spD))) (hN : 0 < N) (hN2 : N ≤ 1900) (h : SzT N t) (hq : SzP N q) (hl : t.length ≤ 20) (hl2 : q.length ≤ 20) : fRepr [.tup [.loc m, pol q]] L = .val (.str (shTP t q)) L := by
  have d1 : dat 7 L (.loc m) = some (.list (t.map encS.p)) := encS.datL ht (by decide)
  have d2 : dat 7 L (pol q) = some (.tuple (q.map datF)) := (encL encF).dat L q 7 (by decide)
  have d3 : dat 8 L (.tup [.loc m, pol q]) = some (.tuple [.list (t.map encS.p), .tuple (q.map datF)]) := by
    rw [dat_tup, opts_cons d1 (opts_cons d2 rfl)]; rfl
  have f1 := (fine_table hN hN2 h hl).mono (show 10 * 20 ≤ 200 by decide) (show 3 ≤ 3 by decide)
  have f2 := (fine_pol hN hN2 hq hl2).mono (show 3 * 20 ≤ 200 by decide) (show 2 ≤ 3 by decide)
  have f3 : Fine N ((200 + 1) * 2) 4 (.tuple [.list (t.map encS.p), .tuple (q.map datF)]) := Fine.tuple (fun d hd => by
    rcases List.mem_cons.mp hd with rfl | hd
    · exact f1
    · rw [List.mem_singleton.mp hd]; exact f2) (Nat.le_refl 2)
  have ok := f3.ok (by have := Nat.mul_le_mul_right ((200 + 1) * 2) (show N + 10 ≤ 1910 by omega); omega) (by decide)
  unfold fRepr
  simp only [d3]
  rw [if_pos ok]; rfl
theorem fRepr_T {L : Lh} {N m : Nat} {t : List Spo} (ht : L[m]? = some (.lst (t.map spD))) (hN : 0 < N) (hN2 : N ≤ 1900) (h : SzT N t) (hl : t.length ≤ 20) : fRepr [.loc m] L = .val (.str (shT t)) L := by
  have d1 : dat 8 L (.loc m) = some (.list (t.map encS.p)) := encS.datL ht (by decide)
  have f1 := (fine_table hN hN2 h hl).mono (show 10 * 20 ≤ 200 by decide) (show 3 ≤ 3 by decide)
  have ok := f1.ok (by have := Nat.mul_le_mul_right 200 (show N + 10 ≤ 1910 by omega); omega) (by decide)
  unfold fRepr
  simp only [d1]
  rw [if_pos ok]; rfl
@[simp] theorem fNeS_self (s : Str) (L : Lh) : fNeS (.str s) (.str s) L = .val (.bl false) L := by
  unfold fNeS
  simp
theorem Pre.over {L L1 L2 : Lh} (h : Pre L L1) (g : Grow L.length L1 L2) : Pre L L2 := by
  have hl := h.le
  have hl2 := g.le
  unfold Pre
  refine List.ext_getElem? fun i => ?_
  rw [List.getElem?_take]
  split
  · rename_i hi
    rw [g.at_ i (by omega) (by omega)]
    have := h.get (List.getElem?_eq_getElem hi)
    rw [this, List.getElem?_eq_getElem hi]
  · rename_i hi
    rw [List.getElem?_eq_none (by omega)]
theorem mxN_at {f : Nat → Rat} : ∀ {n : Nat}, 0 < n → ∃ j, ∃ _ : j < n, rabs (f j) = mxN f n
  | 1, _ => ⟨0, by omega, by
    have h0 := rabs_nonneg' (f 0)
    rw [mxN]
    split
    · rfl
    · rename_i h
      have : mxN f 0 = 0 := rfl
      rw [this] at h ⊢
      grind⟩
  | n + 2, _ => by
    obtain ⟨j, hj, e⟩ := mxN_at (f := f) (n := n + 1) (by omega)
    rw [mxN]
    split
    · exact ⟨n + 1, by omega, rfl⟩
    · exact ⟨j, by omega, e⟩
/-! ## refusals -/
theorem wp_tryAs {i : Nat} {cs : List Str} {tb : S3} {hd : Addr → Str → S3} {Γ : G3} {L : Lh} {P : Po}
    (h : wpS (tb Γ L) ⟨P.nx, P.rt, P.bk, P.ct, fun c Γ' L' => c ∈ cs ∧ ∃ o, (∀ a : Addr, offS i (hd a c (Γ'.set i (some (.val (.ref a)))) L') = o) ∧ wpS o P⟩) : wpS (sTryAs i cs tb hd Γ L) P := by
  unfold sTryAs
  cases ht : tb Γ L with
  | nx Γ1 L1 => rw [ht] at h; exact h
  | ret d L1 => rw [ht] at h; exact h
  | brk Γ1 L1 => rw [ht] at h; exact h
  | ct Γ1 L1 => rw [ht] at h; exact h
  | stuck => rw [ht] at h; exact h.elim
  | exn c Γ1 L1 =>
    rw [ht] at h
    obtain ⟨hc, o, ho, hp⟩ := h
    have ex : ∃ o, ∀ a : Addr, offS i (hd a c (Γ1.set i (some (.val (.ref a)))) L1) = o := ⟨o, ho⟩
    have e : ex.choose = o := (ex.choose_spec 0).symm.trans (ho 0)
    dsimp only
    rw [if_pos hc, dif_pos ex, e]
    exact hp
@[simp] theorem sub_NoText_NoText : subX "NoText" "NoText" = true := by decide +kernel
@[simp] theorem sub_NoText_Twice : subX "NoText" "Twice" = false := by decide +kernel
@[simp] theorem sub_NoText_NoWeight : subX "NoText" "NoWeight" = false := by decide +kernel
@[simp] theorem sub_NoText_Unlike : subX "NoText" "Unlike" = false := by decide +kernel
@[simp] theorem sub_NoText_Lacking : subX "NoText" "Lacking" = false := by decide +kernel
@[simp] theorem sub_NoText_Crowded : subX "NoText" "Crowded" = false := by decide +kernel
@[simp] theorem sub_NoText_Few : subX "NoText" "Few" = false := by decide +kernel
@[simp] theorem sub_NoText_NoGain : subX "NoText" "NoGain" = false := by decide +kernel
@[simp] theorem sub_NoText_Beyond : subX "NoText" "Beyond" = false := by decide +kernel
@[simp] theorem sub_NoText_ValueError : subX "NoText" "ValueError" = true := by decide +kernel
@[simp] theorem sub_Twice_NoText : subX "Twice" "NoText" = false := by decide +kernel
@[simp] theorem sub_Twice_Twice : subX "Twice" "Twice" = true := by decide +kernel
@[simp] theorem sub_Twice_NoWeight : subX "Twice" "NoWeight" = false := by decide +kernel
@[simp] theorem sub_Twice_Unlike : subX "Twice" "Unlike" = false := by decide +kernel
@[simp] theorem sub_Twice_Lacking : subX "Twice" "Lacking" = false := by decide +kernel
@[simp] theorem sub_Twice_Crowded : subX "Twice" "Crowded" = false := by decide +kernel
@[simp] theorem sub_Twice_Few : subX "Twice" "Few" = false := by decide +kernel
@[simp] theorem sub_Twice_NoGain : subX "Twice" "NoGain" = false := by decide +kernel
@[simp] theorem sub_Twice_Beyond : subX "Twice" "Beyond" = false := by decide +kernel
@[simp] theorem sub_Twice_ValueError : subX "Twice" "ValueError" = true := by decide +kernel
@[simp] theorem sub_NoWeight_NoText : subX "NoWeight" "NoText" = false := by decide +kernel
@[simp] theorem sub_NoWeight_Twice : subX "NoWeight" "Twice" = false := by decide +kernel
@[simp] theorem sub_NoWeight_NoWeight : subX "NoWeight" "NoWeight" = true := by decide +kernel
@[simp] theorem sub_NoWeight_Unlike : subX "NoWeight" "Unlike" = false := by decide +kernel
@[simp] theorem sub_NoWeight_Lacking : subX "NoWeight" "Lacking" = false := by decide +kernel
@[simp] theorem sub_NoWeight_Crowded : subX "NoWeight" "Crowded" = false := by decide +kernel
@[simp] theorem sub_NoWeight_Few : subX "NoWeight" "Few" = false := by decide +kernel
@[simp] theorem sub_NoWeight_NoGain : subX "NoWeight" "NoGain" = false := by decide +kernel
@[simp] theorem sub_NoWeight_Beyond : subX "NoWeight" "Beyond" = false := by decide +kernel
@[simp] theorem sub_NoWeight_ValueError : subX "NoWeight" "ValueError" = true := by decide +kernel
@[simp] theorem sub_Unlike_NoText : subX "Unlike" "NoText" = false := by decide +kernel
@[simp] theorem sub_Unlike_Twice : subX "Unlike" "Twice" = false := by decide +kernel
@[simp] theorem sub_Unlike_NoWeight : subX "Unlike" "NoWeight" = false := by decide +kernel
@[simp] theorem sub_Unlike_Unlike : subX "Unlike" "Unlike" = true := by decide +kernel
@[simp] theorem sub_Unlike_Lacking : subX "Unlike" "Lacking" = false := by decide +kernel
@[simp] theorem sub_Unlike_Crowded : subX "Unlike" "Crowded" = false := by decide +kernel
@[simp] theorem sub_Unlike_Few : subX "Unlike" "Few" = false := by decide +kernel
@[simp] theorem sub_Unlike_NoGain : subX "Unlike" "NoGain" = false := by decide +kernel
@[simp] theorem sub_Unlike_Beyond : subX "Unlike" "Beyond" = false := by decide +kernel
@[simp] theorem sub_Unlike_ValueError : subX "Unlike" "ValueError" = true := by decide +kernel
@[simp] theorem sub_Lacking_NoText : subX "Lacking" "NoText" = false := by decide +kernel
@[simp] theorem sub_Lacking_Twice : subX "Lacking" "Twice" = false := by decide +kernel
@[simp] theorem sub_Lacking_NoWeight : subX "Lacking" "NoWeight" = false := by decide +kernel
@[simp] theorem sub_Lacking_Unlike : subX "Lacking" "Unlike" = false := by decide +kernel
@[simp] theorem sub_Lacking_Lacking : subX "Lacking" "Lacking" = true := by decide +kernel
@[simp] theorem sub_Lacking_Crowded : subX "Lacking" "Crowded" = false := by decide +kernel
@[simp] theorem sub_Lacking_Few : subX "Lacking" "Few" = false := by decide +kernel
@[simp] theorem sub_Lacking_NoGain : subX "Lacking" "NoGain" = false := by decide +kernel
@[simp] theorem sub_Lacking_Beyond : subX "Lacking" "Beyond" = false := by decide +kernel
@[simp] theorem sub_Lacking_ValueError : subX "Lacking" "ValueError" = true := by decide +kernel
@[simp] theorem sub_Crowded_NoText : subX "Crowded" "NoText" = false := by decide +kernel
@[simp] theorem sub_Crowded_Twice : subX "Crowded" "Twice" = false := by decide +kernel
@[simp] theorem sub_Crowded_NoWeight : subX "Crowded" "NoWeight" = false := by decide +kernel
@[simp] theorem sub_Crowded_Unlike : subX "Crowded" "Unlike" = false := by decide +kernel
@[simp] theorem sub_Crowded_Lacking : subX "Crowded" "Lacking" = false := by decide +kernel
@[simp] theorem sub_Crowded_Crowded : subX "Crowded" "Crowded" = true := by decide +kernel
@[simp] theorem sub_Crowded_Few : subX "Crowded" "Few" = false := by decide +kernel
@[simp] theorem sub_Crowded_NoGain : subX "Crowded" "NoGain" = false := by decide +kernel
@[simp] theorem sub_Crowded_Beyond : subX "Crowded" "Beyond" = false := by decide +kernel
@[simp] theorem sub_Crowded_ValueError : subX "Crowded" "ValueError" = true := by decide +kernel
@[simp] theorem sub_Few_NoText : subX "Few" "NoText" = false := by decide +kernel
@[simp] theorem sub_Few_Twice : subX "Few" "Twice" = false := by decide +kernel
@[simp] theorem sub_Few_NoWeight : subX "Few" "NoWeight" = false := by decide +kernel
@[simp] theorem sub_Few_Unlike : subX "Few" "Unlike" = false := by decide +kernel
@[simp] theorem sub_Few_Lacking : subX "Few" "Lacking" = false := by decide +kernel
@[simp] theorem sub_Few_Crowded : subX "Few" "Crowded" = false := by decide +kernel
@[simp] theorem sub_Few_Few : subX "Few" "Few" = true := by decide +kernel
@[simp] theorem sub_Few_NoGain : subX "Few" "NoGain" = false := by decide +kernel
@[simp] theorem sub_Few_Beyond : subX "Few" "Beyond" = false := by decide +kernel
@[simp] theorem sub_Few_ValueError : subX "Few" "ValueError" = true := by decide +kernel
@[simp] theorem sub_NoGain_NoText : subX "NoGain" "NoText" = false := by decide +kernel
@[simp] theorem sub_NoGain_Twice : subX "NoGain" "Twice" = false := by decide +kernel
@[simp] theorem sub_NoGain_NoWeight : subX "NoGain" "NoWeight" = false := by decide +kernel
@[simp] theorem sub_NoGain_Unlike : subX "NoGain" "Unlike" = false := by decide +kernel
@[simp] theorem sub_NoGain_Lacking : subX "NoGain" "Lacking" = false := by decide +kernel
@[simp] theorem sub_NoGain_Crowded : subX "NoGain" "Crowded" = false := by decide +kernel
@[simp] theorem sub_NoGain_Few : subX "NoGain" "Few" = false := by decide +kernel
@[simp] theorem sub_NoGain_NoGain : subX "NoGain" "NoGain" = true := by decide +kernel
@[simp] theorem sub_NoGain_Beyond : subX "NoGain" "Beyond" = false := by decide +kernel
@[simp] theorem sub_NoGain_ValueError : subX "NoGain" "ValueError" = true := by decide +kernel
@[simp] theorem sub_Beyond_NoText : subX "Beyond" "NoText" = false := by decide +kernel
@[simp] theorem sub_Beyond_Twice : subX "Beyond" "Twice" = false := by decide +kernel
@[simp] theorem sub_Beyond_NoWeight : subX "Beyond" "NoWeight" = false := by decide +kernel
@[simp] theorem sub_Beyond_Unlike : subX "Beyond" "Unlike" = false := by decide +kernel
@[simp] theorem sub_Beyond_Lacking : subX "Beyond" "Lacking" = false := by decide +kernel
@[simp] theorem sub_Beyond_Crowded : subX "Beyond" "Crowded" = false := by decide +kernel
@[simp] theorem sub_Beyond_Few : subX "Beyond" "Few" = false := by decide +kernel
@[simp] theorem sub_Beyond_NoGain : subX "Beyond" "NoGain" = false := by decide +kernel
@[simp] theorem sub_Beyond_Beyond : subX "Beyond" "Beyond" = true := by decide +kernel
@[simp] theorem sub_Beyond_ValueError : subX "Beyond" "ValueError" = true := by decide +kernel
theorem wpR.exq {α : Type} {r : R3 α} {c : Str} {L : Lh} (h : wpR r (fun _ _ => False) (fun c' L1 => c' = c ∧ L1 = L)) : r = .exn c L := by
  cases r with
  | val a L1 => exact h.elim
  | exn c' L1 => obtain ⟨rfl, rfl⟩ := h; rfl
  | stuck => exact h.elim
theorem not_dis {xs : List Rat} : ∀ {n : Nat}, ¬ DisN xs n → ∃ j, j < n ∧ DisN xs j ∧ ∃ i, i < j ∧ at0 xs i = at0 xs j
  | 0, h => absurd (fun a b ha => by omega) h
  | n + 1, h => by
    by_cases hn : DisN xs n
    · by_cases hx : ∃ i, i < n ∧ at0 xs i = at0 xs n
      · obtain ⟨i, hi, e⟩ := hx
        exact ⟨n, by omega, hn, i, hi, e⟩
      · refine absurd (fun a b ha hb hab => ?_) h
        by_cases ea : a = n
        · subst ea
          intro z
          exact hx ⟨b, by omega, z.symm⟩
        · by_cases eb : b = n
          · subst eb
            intro z
            exact hx ⟨a, by omega, z⟩
          · exact hn a b (by omega) (by omega) hab
    · obtain ⟨j, hj, h1, h2⟩ := not_dis hn
      exact ⟨j, by omega, h1, h2⟩
theorem steep_0 {ps : List (Rat × Rat)} {i j : Nat} (hi : i < j) (e : at0 (pxs ps) i = at0 (pxs ps) j) : ev (thr ps j).2 (at0 (pxs ps) j) = 0 := by
  rw [thr_roots]
  exact (ev_rootsP_mem (mem_revN.mpr ⟨i, hi, e.symm⟩))
/-- two at one x -/
theorem fn_through_twice {L : Lh} {N M n : Nat} {ps : List (Rat × Rat)} (hp : L[n]? = some (.lst (ps.map prD))) (h : SzP N (pxs ps)) (hy : SzP M (pys ps)) (hd : ¬ DisN (pxs ps) ps.length) (hl : ps.length ≤ 7) (hs : 20000 * N + 200 * M + 200000 ≤ LIM) : fn_through [.loc n] L = .exn "Twice" L := by
  obtain ⟨j, hj, hdj, i0, hi0, he⟩ := not_dis hd
  apply wpR.exq
  unfold fn_through d_through
  refine wp_run rfl ?_
  have e0 : D.tup [] = pol [] := rfl
  have e1 : D.tup [fr 1] = pol [1] := rfl
  simp [k1, e0, e1, ltR_loc hp]
  refine wp_for (fun i Γ L' => i ≤ j ∧ (∃ v3 v4 v5 v6, Γ = [some (.loc n), some (pol (thr ps i).1), some (pol (thr ps i).2), v3, v4, v5, v6]) ∧ L' = L) ⟨Nat.zero_le _, ⟨_, _, _, _, rfl⟩, rfl⟩ (fun _ _ _ _ q => by rw [q.2.2, hp]) (fun i hi Γ L' J hJ hI => ?_) (fun Γ L' hI => ?_)
  · obtain ⟨hij, ⟨v3, v4, v5, v6, rfl⟩, rfl⟩ := hI
    have hi' : i < ps.length := by simpa using hi
    obtain ⟨z1, z2, z3, z4⟩ := through_turn (L := L') h hy (hdj.mono hij) hi' hl hs
    simp only [List.getElem_map]
    simp only [gT_pr, ← pxs_at hi', ← pys_at hi']
    by_cases ej : i = j
    · subst ej
      have h0 := steep_0 hi0 he
      rw [h0] at z1
      simp [z1, k0]
    · have h0 := steep_ne (hdj.mono (show i + 1 ≤ j by omega))
      obtain ⟨z5, z6, z7, z8⟩ := z4 h0
      simp [z1, z2, z3, z5, z6, z7, z8, k0, h0, fn_without_root_eq]
      exact hJ _ _ ⟨by omega, ⟨_, _, _, _, rfl⟩, rfl⟩
  · obtain ⟨h1, _⟩ := hI
    simp at h1
    omega
/-! ## pairs -/
theorem fine_pair {N : Nat} {s : Rat × Rat} (hN : 0 < N) (hN2 : N ≤ 1900) (h : Sz N s.1 ∧ Sz N s.2) : Fine N 6 2 (.tuple [datF s.1, datF s.2]) := by
  obtain ⟨a, b⟩ := h
  exact (Fine.tuple (n := 2) (ds := [datF s.1, datF s.2]) (fun d hd => by
    rcases List.mem_cons.mp hd with rfl | hd
    · exact fine_fr hN hN2 a
    · rw [List.mem_singleton.mp hd]; exact fine_fr hN hN2 b) (Nat.le_refl 2)).mono (by decide) (by decide)
noncomputable def shP (ps : List (Rat × Rat)) : Str := PyData.shown (.list (ps.map fun s => .tuple [datF s.1, datF s.2]))
theorem fRepr_P {L : Lh} {N m : Nat} {ps : List (Rat × Rat)} (ht : L[m]? = some (.lst (ps.map prD))) (hN : 0 < N) (hN2 : N ≤ 1900) (h : ∀ p ∈ ps, Sz N p.1 ∧ Sz N p.2) (hl : ps.length ≤ 20) : fRepr [.loc m] L = .val (.str (shP ps)) L := by
  have o1 : opts (dat 7 L) (ps.map prD) = some (ps.map fun s => .tuple [datF s.1, datF s.2]) := by
    clear ht h hl
    induction ps with
    | nil => rfl
    | cons p ps ih => exact opts_cons (by rfl) ih
  have d1 : dat 8 L (.loc m) = some (.list (ps.map fun s => .tuple [datF s.1, datF s.2])) := by
    rw [dat_loc ht, o1]; rfl
  have f1 : Fine N (7 * 20) 3 (.list (ps.map fun s => .tuple [datF s.1, datF s.2])) := Fine.list (b := 6) (k := 2) (fun d hd => by
    obtain ⟨x, hx, rfl⟩ := List.mem_map.mp hd
    exact fine_pair hN hN2 (h x hx)) (by simpa using hl)
  have ok := f1.ok (by have := Nat.mul_le_mul_right (7 * 20) (show N + 10 ≤ 1910 by omega); omega) (by decide)
  unfold fRepr
  simp only [d1]
  rw [if_pos ok]; rfl
theorem fEq_str {L : Lh} {a b : Str} (ha : PyData.canLay0 (.str a) = true := by decide +kernel) (hb : PyData.canLay0 (.str b) = true := by decide +kernel) : fEq (.str a) (.str b) L = .val (.bl (decide (a = b))) L := by
  have := (eqD_of (L := L) (x := .str a) (y := .str b) (a := .str a) (b := .str b) rfl rfl (by unfold SeqAt.shaped; rw [ha]; rfl) (by unfold SeqAt.shaped; rw [hb]; rfl) rfl).1
  rw [this]
  congr 2
/-! ## family S: what its laws draw and reckon -/
theorem law_drawS {m : Int} {n : Nat} {L : Lh} {Q : D → Lh → Prop} {E : Str → Lh → Prop} (hp : PotAt L n) (h0 : 0 < m) (hm : m < 2 ^ 60)
    (h : ∀ d L', 0 ≤ d → d < m → Grow n L L' → PotAt L' n → Q (.int d) L') : wpR (fn_law_drawS [.loc n, .int m] L) Q E :=
  wp_draw (A := 39373) (B := 1213) (M := 2147483629) (M2 := 2147483563) (V := 11) (by decide) (by decide) (by decide) (by decide) (by decide) hp h0 hm h
theorem law_potS {ns : List Int} {k : Nat} {L : Lh} {Q : D → Lh → Prop} {E : Str → Lh → Prop} (hk : k ≤ 1000) (h : ∀ c, PotAt (L ++ [c]) L.length → Q (.loc L.length) (L ++ [c])) : wpR (fn_law_potS [.rol (ns.map D.int), .int k] L) Q E := by
  have m1 : CMulX 17 (k : Int) := cmulS (by omega) (by omega)
  have pw : CPow 10 18 := ⟨by decide, by decide, by decide⟩
  unfold fn_law_potS d_law_potS
  refine wp_run rfl ?_
  by_cases hk : k < ns.length
  · have x : ∀ X, fIx (.rol (ns.map D.int)) (.int k) X = .val (.int ns[k]) X := fun X => fIx_listS (by rw [itemsT_rol]) (by rw [atI_some (by simpa using hk)]; simp)
    have e := Int.fmod_eq_emod_of_nonneg ((ns[k]).natAbs : Int) (show (0 : Int) ≤ 2147483563 by decide)
    generalize ns[k] = c at *
    simp [hk, x, abs_if, pw, m1, e]
    refine h _ ⟨_, _, get_last, ?_⟩
    refine ⟨by split <;> omega, by omega, by omega⟩
  · simp [hk, abs_if, pw, m1]
    refine h _ ⟨_, _, get_last, ?_⟩
    refine ⟨by omega, by omega, by omega⟩
theorem fn_law_fracS_eq {a b : Int} (L : Lh) (hb : b ≠ 0) : fn_law_fracS [.int a, .int b] L = .val (fr (Rat.divInt a b)) L := by
  have hg := gcd_pos (a := a) hb
  have gg : Int.gcd (a.natAbs : Int) (b.natAbs : Int) = Int.gcd a b := by simp [Int.gcd]
  apply wpR.eq
  unfold fn_law_fracS d_law_fracS
  refine wp_run rfl ?_
  simp [abs_if]
  refine wp_while (fun m Γ L' => ∃ x : Int, 0 ≤ x ∧ Γ = [some (.int a), some (.int b), some (.int x), some (.int m), none] ∧ L' = L ∧ Int.gcd x m = Int.gcd a b) b.natAbs ⟨a.natAbs, by omega, rfl, rfl, gg⟩ (fun m Γ L' h => ?_)
  obtain ⟨x, hx, rfl, rfl, hgx⟩ := h
  simp
  by_cases hm : m = 0
  · subst hm
    have hx2 : x = (Int.gcd a b : Int) := by rw [← hgx]; simp [Int.gcd]; omega
    subst hx2
    simp
    refine wp_ifE (fun hb0 => ?_) (fun hb0 => ?_)
    · have e := frac_gcd a b hb (Int.gcd a b : Int) (by rw [if_neg (by omega)])
      have c2 : Int.gcd a b ≠ 0 := by omega
      simp [c2, e]
    · have e := frac_gcd a b hb (-(Int.gcd a b : Int)) (by rw [if_pos (by omega)])
      have c2 : Int.gcd a b ≠ 0 := by omega
      simp [c2, e]
  · have hm0 : (0 : Int) < (m : Int) := by omega
    have hnn := Int.emod_nonneg x (show (m : Int) ≠ 0 by omega)
    have hlt := Int.emod_lt_of_pos x hm0
    have e1 : x.fmod (m : Int) = ((x % (m : Int)).toNat : Int) := by
      rw [Int.fmod_eq_emod_of_nonneg _ (by omega), Int.toNat_of_nonneg hnn]
    have hm1 : 0 < m := by omega
    simp [hm1, hm]
    refine ⟨(x % (m : Int)).toNat, by omega, m, by omega, ⟨rfl, e1⟩, ?_⟩
    rw [Int.toNat_of_nonneg hnn, ← gcd_step hx hm0, hgx]
section
variable {p q : Rat}
theorem fn_law_plusS_eq (L : Lh) (hp : Fit p) (hq : Fit q) : fn_law_plusS [fr p, fr q] L = .val (fr (p + q)) L := by
  have z := fn_law_fracS_eq (a := p.num * q.den + q.num * p.den) L (dens_ne p q)
  rw [rat_add] at z
  apply wpR.eq
  unfold fn_law_plusS d_law_plusS
  refine wp_run rfl ?_
  simp [hp.1, hp.2, hq.1, hq.2, -fMul, z]
theorem fn_law_lessS_eq (L : Lh) (hp : Fit p) (hq : Fit q) : fn_law_lessS [fr p, fr q] L = .val (fr (p - q)) L := by
  have z := fn_law_fracS_eq (a := p.num * q.den - q.num * p.den) L (dens_ne p q)
  rw [rat_sub] at z
  apply wpR.eq
  unfold fn_law_lessS d_law_lessS
  refine wp_run rfl ?_
  simp [hp.1, hp.2, hq.1, hq.2, -fMul, z]
theorem fn_law_timesS_eq (L : Lh) (hp : Fit p) (hq : Fit q) : fn_law_timesS [fr p, fr q] L = .val (fr (p * q)) L := by
  have z := fn_law_fracS_eq (a := p.num * q.num) L (dens_ne p q)
  rw [rat_mul] at z
  apply wpR.eq
  unfold fn_law_timesS d_law_timesS
  refine wp_run rfl ?_
  simp [hp.1, hp.2, hq.1, hq.2, -fMul, z]
end
theorem fn_law_overS_eq {p q : Rat} (L : Lh) (hp : Fit p) (hq : Fit q) (h0 : q ≠ 0) : fn_law_overS [fr p, fr q] L = .val (fr (p / q)) L := by
  have z := fn_law_fracS_eq (a := p.num * q.den) L (Int.mul_ne_zero (den_ne p) (num_ne h0))
  rw [rat_div] at z
  apply wpR.eq
  unfold fn_law_overS d_law_overS
  refine wp_run rfl ?_
  simp [hp.1, hp.2, hq.1, hq.2, -fMul, z]
theorem fn_law_aheadS_eq (L : Lh) {p q : Rat} (hp : Fit p) (hq : Fit q) : fn_law_aheadS [fr p, fr q] L = .val (.bl (decide (p < q))) L := by
  have e := rat_lt_num p q
  apply wpR.eq
  unfold fn_law_aheadS d_law_aheadS
  refine wp_run rfl ?_
  simp [hp.1, hp.2, hq.1, hq.2, -fMul]
  simp [e]
theorem fn_law_worthS_eq {n m : Nat} {ps : List Rat} {x : Rat} (L : Lh) (h1 : SzP n ps) (h2 : Sz m x) (hk : (ps.length + 1) * (n + m + 2) + 1 ≤ LIM) : fn_law_worthS [pol ps, fr x] L = .val (fr (ev ps x)) L := by
  have e0 : D.tup [.int 0, .int 1] = fr 0 := rfl
  rw [Nat.succ_mul] at hk
  apply wpR.eq
  unfold fn_law_worthS d_law_worthS
  refine wp_run rfl ?_
  simp [e0]
  refine wp_for (fun i Γ L' => L' = L ∧ ∃ v, Γ = [some (pol ps), some (fr x), some (fr (ev (ps.drop (ps.length - i)) x)), v]) ⟨rfl, _, by simp; rfl⟩ (fun _ _ _ _ _ => trivial) (fun i hi Γ L' J hJ h => ?_) (fun Γ L' h => ?_)
  · obtain ⟨rfl, v, rfl⟩ := h
    have hi' : i < ps.length := by simpa using hi
    have s1 : Sz (ps.length * (n + m + 2) + 1) (ev (ps.drop (ps.length - i)) x) := ev_sz (fun p hp => h1 p (List.mem_of_mem_drop hp)) h2 (by simp)
    have hp : Sz n (ps[ps.length - 1 - i]'(by omega)) := h1 _ (List.getElem_mem _)
    have e1 := fn_law_timesS_eq L' (Fit.of s1 (by omega)) (Fit.of h2 (by omega))
    have e2 := fn_law_plusS_eq L' (Fit.of (s1.mul h2) (by omega)) (Fit.of hp (by omega))
    have e3 : ev (ps.drop (ps.length - (i + 1))) x = ev (ps.drop (ps.length - i)) x * x + ps[ps.length - 1 - i]'(by omega) := by
      have : ps.length - (i + 1) < ps.length := by omega
      have e : ps.length - (i + 1) = ps.length - 1 - i := by omega
      rw [List.drop_eq_getElem_cons this, ev_cons, show ps.length - (i + 1) + 1 = ps.length - i by omega]
      simp only [e]
    simp [e1, e2]
    exact hJ _ _ ⟨rfl, _, by rw [e3]⟩
  · obtain ⟨rfl, v, rfl⟩ := h
    simp
theorem strip_loopS {L : Lh} {m i : Nat} {Γ : G3} {P : Po} (hΓ : Γ[i]? = some (some (.loc m))) : ∀ {ps : List Rat}, L[m]? = some (.lst (ps.map fr)) → ps.length ≤ 100000 → (∀ L', L'[m]? = some (.lst ((trim ps).map fr)) → Grow m L L' → P.nx Γ L') →
    wpS (sWhile (tAnd3 (tE (eOp fNe (eVar i) (eLst aNil))) (tE (eOp fEq (eOp fIx (eVar i) (eUn fNeg (eC (.int 1)))) (eTup (aCons (eC (.int 0)) (aCons (eC (.int 1)) aNil)))))) (sDrop (eMt0 "list" mPop (eVar i))) Γ L) P := by
  intro ps hL hl h
  have e0 : D.tup [.int 0, .int 1] = fr 0 := rfl
  refine wp_whl (fun k Γ' L' => Γ' = Γ ∧ k ≤ ps.length ∧ L'[m]? = some (.lst ((ps.take k).map fr)) ∧ trim (ps.take k) = trim ps ∧ Grow m L L') ps.length ⟨rfl, Nat.le_refl _, by rw [List.take_length]; exact hL, by rw [List.take_length], Grow.refl _ _⟩ (fun k Γ' L' J hJ hI => ?_)
  obtain ⟨rfl, hk, h1, h2, g⟩ := hI
  have g1 : Grow m L (L' ++ [.lst []]) := g.trans Grow.app
  have q1 := encF.eqL (as := ps.take k) (bs := []) (get_app (X := [.lst []]) h1) (get_last (L := L') (c := .lst []))
  have h3 := get_app (X := [.lst []]) h1
  generalize hX : L' ++ [Cell.lst []] = L1 at *
  cases k with
  | zero =>
    simp [hΓ, hX, q1.2]
    refine h _ ?_ g1
    rw [h3, ← h2, List.take_zero]; rfl
  | succ k =>
    have hk' : k < ps.length := by omega
    have ne2 : ps ≠ [] := by intro z; subst z; simp at hk'
    rw [take_snoc hk'] at h3
    have i3 := items_loc h3
    have a3 : atI ((ps.take k ++ [ps[k]]).map fr) (-1) = some (fr ps[k]) := by rw [List.map_append]; exact atI_m1 _ _
    have fx : fIx (.loc m) (.int (-1)) L1 = .val (fr ps[k]) L1 := fIx_listS (by rw [itemsT_loc]; exact i3) a3
    simp [hΓ, hX, q1.2, ne2, fx, e0]
    refine wp_wh (fun z => ?_) (fun z => ?_)
    · have z0 : ps[k] = 0 := z
      simp [hΓ, h3]
      rw [List.map_append] at h3
      have mp := mPop_eq h3
      rw [mp]
      refine hJ k _ _ (by omega) ⟨rfl, by omega, get_set h3, ?_, ⟨by simpa using g1.le, fun j hj hjm => by rw [List.getElem?_set_ne (Ne.symm hjm)]; exact g1.at_ j hj hjm⟩⟩
      rw [← h2, take_snoc hk', z0, trim_snoc0]
    · have z0 : ps[k] ≠ 0 := z
      refine h _ ?_ g1
      rw [h3, ← h2, take_snoc hk', trim_snoc z0]
theorem law_numberS {n : Nat} {L : Lh} {Q : D → Lh → Prop} {E : Str → Lh → Prop} (hp : PotAt L n) (h : ∀ q L', Sz 6 q → Grow n L L' → PotAt L' n → Q (fr q) L') : wpR (fn_law_numberS [.loc n] L) Q E := by
  unfold fn_law_numberS d_law_numberS
  refine wp_run rfl ?_
  simp
  refine law_drawS (m := 19) hp (by decide) (by decide) fun b L2 b0 b1 g2 p2 => ?_
  simp
  refine law_drawS (m := 9) p2 (by decide) (by decide) fun c L3 c0 c1 g3 p3 => ?_
  have hc : 1 + c ≠ 0 := by omega
  simp [fn_law_fracS_eq _ hc]
  exact wp_truncG (by simp) (g2.trans g3) p3 hp.lt fun L'' g p => h _ _ (divInt_sz hc (by omega) (by omega)) g p
theorem law_degreeS {n : Nat} {L : Lh} {Q : D → Lh → Prop} {E : Str → Lh → Prop} (hp : PotAt L n) (h : ∀ (d : Nat) L', d ≤ 5 → Grow n L L' → PotAt L' n → Q (.int (d : Nat)) L') : wpR (fn_law_degreeS [.loc n] L) Q E := by
  have hn := hp.lt
  unfold fn_law_degreeS d_law_degreeS
  refine wp_run rfl ?_
  simp
  refine law_drawS (m := 4) hp (by decide) (by decide) fun a L1 a0 a1 g1 p1 => ?_
  simp
  refine law_drawS (m := 2) p1 (by decide) (by decide) fun b L2 b0 b1 g2 p2 => ?_
  simp
  have h3 := get_last (L := L2) (c := .lst [.int a, .int (4 + b)])
  have g3 := (g1.trans g2).trans (Grow.app (n := n) (X := [Cell.lst [.int a, .int (4 + b)]]))
  have p3 := p2.app (X := [Cell.lst [.int a, .int (4 + b)]])
  have hne : L2.length ≠ n := by have := p2.lt; omega
  generalize L2 ++ [Cell.lst [.int a, .int (4 + b)]] = L3 at *
  generalize L2.length = ml at *
  refine law_drawS (m := 4) p3 (by decide) (by decide) fun c L4 c0 c1 g4 p4 => ?_
  have i4 := items_loc (g4.keep h3 hne)
  have fin : ∀ x : Int, 0 ≤ x → x ≤ 5 → wpR (trunc L (.int x) L4) Q E := fun x x0 x1 => by
    obtain ⟨x, rfl⟩ := Int.eq_ofNat_of_zero_le x0
    exact wp_truncG (by simp) (g3.trans g4) p4 hn fun L'' g p => h x L'' (by omega) g p
  by_cases z : c = 3
  · simp [z, fIx, i4]; exact fin _ (by omega) (by omega)
  · simp [z, fIx, i4]; exact fin _ (by omega) (by omega)
theorem law_weightS {n : Nat} {L : Lh} {Q : D → Lh → Prop} {E : Str → Lh → Prop} (hp : PotAt L n) (h : ∀ q L', Sz 6 q → 0 < q → Grow n L L' → PotAt L' n → Q (fr q) L') : wpR (fn_law_weightS [.loc n] L) Q E := by
  have hn := hp.lt
  have e1 : D.tup [.int 1, .int 1] = fr 1 := rfl
  unfold fn_law_weightS d_law_weightS
  refine wp_run rfl ?_
  simp
  refine law_drawS (m := 9) hp (by decide) (by decide) fun a L1 a0 a1 g1 p1 => ?_
  simp
  refine law_drawS (m := 9) p1 (by decide) (by decide) fun b L2 b0 b1 g2 p2 => ?_
  have hb : 1 + b ≠ 0 := by omega
  have sq : Sz 6 (Rat.divInt (1 + a) (1 + b)) := divInt_sz hb (by omega) (by omega)
  have q0 : 0 < Rat.divInt (1 + a) (1 + b) := rat_pos (by omega) (by omega)
  generalize hq : Rat.divInt (1 + a) (1 + b) = q at *
  simp [fn_law_fracS_eq _ hb, hq, e1]
  have h3 := get_last (L := L2) (c := .lst [fr 1, fr q])
  have g3 := (g1.trans g2).trans (Grow.app (n := n) (X := [Cell.lst [fr 1, fr q]]))
  have p3 := p2.app (X := [Cell.lst [fr 1, fr q]])
  have hne : L2.length ≠ n := by have := p2.lt; omega
  generalize L2 ++ [Cell.lst [fr 1, fr q]] = L3 at *
  generalize L2.length = ml at *
  refine law_drawS (m := 2) p3 (by decide) (by decide) fun c L4 c0 c1 g4 p4 => ?_
  have i4 := items_loc (g4.keep h3 hne)
  have : c = 0 ∨ c = 1 := by omega
  rcases this with rfl | rfl
  · simp [fIx, i4]
    exact wp_truncG (by simp) (g3.trans g4) p4 hn fun L'' g p => h 1 L'' (sz1.mono (by decide)) (by decide) g p
  · simp [fIx, i4]
    exact wp_truncG (by simp) (g3.trans g4) p4 hn fun L'' g p => h q L'' sq q0 g p
theorem xs_loopS {L0 L : Lh} {n m many : Nat} {a b : Int} {v6 : Option D} {P : Po} (hb0 : 0 < b) (hb1 : b ≤ 3) (ha : a.natAbs ≤ 10) (hm : many ≤ 12) (hp : PotAt L n) (hn : n < L0.length) (g0 : Grow n L0 L) (hL : L0.length ≤ m) (hLm : L[m]? = some (.lst []))
    (h : ∀ ps Γ L', L'[m]? = some (.lst (ps.map fr)) → Grow n L0 L' → PotAt L' n → ps.length = many → Rise ps → SzP 8 ps → (∃ v4 v6, Γ = [some (.loc n), some (.int many), some (.int b), v4, some (.loc m), v6]) → P.nx Γ L') :
    wpS (forL (fun _ => True) (gN 5) (sSeq (sDrop (eMt "list" mAppend (eVar 4) (aCons (eCall fn_law_fracS (aCons (eVar 3) (aCons (eVar 2) aNil))) aNil)))
    (sSet 3 (eOp fAdd (eOp fAdd (eVar 3) (eC (.int 1))) (eCall fn_law_drawS (aCons (eVar 0) (aCons (eC (.int 3)) aNil)))))) (rngD 0 many) [some (.loc n), some (.int many), some (.int b), some (.int a), some (.loc m), v6] L) P := by
  have hne : m ≠ n := by omega
  refine wp_for (fun k Γ L' => ∃ (ps : List Rat) (at_ : Int), (∃ v6, Γ = [some (.loc n), some (.int many), some (.int b), some (.int at_), some (.loc m), v6]) ∧ L'[m]? = some (.lst (ps.map fr)) ∧ Grow n L0 L' ∧ PotAt L' n ∧ ps.length = k ∧ Rise ps ∧ SzP 8 ps ∧ at_.natAbs ≤ 10 + k * 3 ∧ ∀ i, i < ps.length → at0 ps i < Rat.divInt at_ b)
    ⟨[], a, ⟨_, rfl⟩, hLm, g0, hp, rfl, Rise.nil, szP_nil, by omega, by simp⟩ (fun _ _ _ _ _ => trivial) (fun k hk Γ L1 J hJ hI => ?_) (fun Γ L1 hI => ?_)
  · obtain ⟨ps, at_, ⟨v4, rfl⟩, h1, g1, p1, hl, hr, hs, hab, hlt⟩ := hI
    have hk' : k < many := by simpa using hk
    have hbn : b ≠ 0 := by omega
    simp [h1, fn_law_fracS_eq _ hbn]
    rw [mAppend_eq h1 (by simp; omega)]
    simp
    have h3 : (L1.set m (.lst ((ps ++ [Rat.divInt at_ b]).map fr)))[m]? = some (.lst ((ps ++ [Rat.divInt at_ b]).map fr)) := List.getElem?_set_self (lt_of_get h1)
    refine law_drawS (p1.set hne) (m := 3) (by decide) (by decide) fun d L2 d0 d1 g2 p2 => ?_
    have e0 : ps.map fr ++ [fr (Rat.divInt at_ b)] = (ps ++ [Rat.divInt at_ b]).map fr := map_snoc
    simp
    refine hJ _ _ ⟨ps ++ [Rat.divInt at_ b], at_ + 1 + d, ⟨_, rfl⟩, ?_, (g1.set hL).trans g2, p2, by simp [hl], ?_⟩
    · rw [e0] at g2
      exact g2.keep h3 hne
    · have sq := sz_divInt (a := at_) (b := b) (n := 8) (m := 8) (by omega) (by unfold Bd; omega) (by unfold Bd; omega)
      refine ⟨hr.snoc hlt, hs.snoc sq, ?_, fun i hi => ?_⟩
      · omega
      · have q : Rat.divInt at_ b < Rat.divInt (at_ + 1 + d) b := divInt_lt hb0 hb0 (Int.mul_lt_mul_of_pos_right (by omega) hb0)
        simp at hi
        by_cases e : i = ps.length
        · subst e; rw [at0_snoc_eq]; exact q
        · rw [at0_snoc_lt (by omega)]
          have := hlt i (by omega)
          grind
  · obtain ⟨ps, at_, ⟨v4, rfl⟩, h1, g1, p1, hl, hr, hs, hab, hlt⟩ := hI
    exact h ps _ L1 h1 g1 p1 (by simpa using hl) hr hs ⟨_, _, rfl⟩
theorem law_xsS {n many : Nat} {L : Lh} {Q : D → Lh → Prop} {E : Str → Lh → Prop} (hm : many ≤ 12) (hp : PotAt L n)
    (h : ∀ ps m L', ps.length = many → Rise ps → SzP 8 ps → L.length ≤ m → L'[m]? = some (.lst (ps.map fr)) → Grow n L L' → PotAt L' n → Q (.loc m) L') : wpR (fn_law_xsS [.loc n, .int many] L) Q E := by
  have hn := hp.lt
  unfold fn_law_xsS d_law_xsS
  refine wp_run rfl ?_
  simp [-Po.seq_nx]
  refine law_drawS (m := 3) hp (by decide) (by decide) fun u L1 u0 u1 g1 p1 => ?_
  simp [-Po.seq_nx]
  rw [Po.seq_nx, wp_sSeq]
  simp [-Po.seq_nx]
  refine law_drawS (m := 19) p1 (by decide) (by decide) fun a L2 a0 a1 g2 p2 => ?_
  simp [-Po.seq_nx]
  rw [Po.seq_nx, wp_sSeq]
  simp [-Po.seq_nx]
  have m7 := get_last (L := L2) (c := .lst [])
  have g7 := (g1.trans g2).trans (Grow.app (n := n) (X := [.lst []]))
  have p7 := p2.app (X := [.lst []])
  have hl6 := (g1.trans g2).le
  generalize L2 ++ [Cell.lst []] = L7 at *
  generalize L2.length = mf at *
  rw [Po.seq_nx, wp_sSeq]
  simp [-Po.seq_nx, show many ≤ 1000000 by omega]
  refine xs_loopS (L0 := L) (by omega) (by omega) (by omega) hm p7 hn g7 hl6 m7 fun ps Γ L8 h8 g8 p8 l8 r8 s8 hΓ => ?_
  obtain ⟨v4, v6, rfl⟩ := hΓ
  simp
  exact wp_truncGL hl6 h8 (closeds_frs _ _) g8 p8 hn fun m' L'' hm' hx' g p => h ps m' L'' l8 r8 s8 hm' hx' g p
theorem law_polyS {n many : Nat} {i : Int} {L : Lh} {Q : D → Lh → Prop} {E : Str → Lh → Prop} (hi : i + 1 = (many : Int)) (hm : many ≤ 100) (hp : PotAt L n) (h : ∀ q L', q.length ≤ many → SzP 6 q → trim q = q → Grow n L L' → PotAt L' n → Q (pol q) L') : wpR (fn_law_polyS [.loc n, .int i] L) Q E := by
  have hn := hp.lt
  unfold fn_law_polyS d_law_polyS
  refine wp_run rfl ?_
  simp [-Po.seq_nx, hi, show many ≤ 1000000 by omega]
  refine wp_lcDraw (P := fun _ y => ∃ q, y = fr q ∧ Sz 6 q) hp (by simp; omega) (fun _ _ => trivial) (fun k hk ys L2 hy1 hy2 hl2 hL2 g2 p2 => ?_) (fun ys L2 hy1 hy2 hL2 g2 p2 => ?_)
  · simp
    refine law_drawS (m := 19) p2 (by decide) (by decide) fun b L3 b0 b1 g3 p3 => ?_
    simp [fr_irat]
    exact ⟨⟨_, rfl, sz_int (by omega) (by omega)⟩, g3, p3⟩
  · obtain ⟨ps, rfl, hs⟩ := frs_of (Q := Sz 6) fun k hk => hy2 k hk
    simp at hy1
    have hne : L.length ≠ n := by omega
    simp [-Po.seq_nx]
    rw [Po.seq_nx, wp_sSeq]
    refine strip_loopS rfl hL2 (by omega) fun L3 h3 g3 => ?_
    have e : D.tup ((trim ps).map fr) = pol (trim ps) := rfl
    have i3 := items_loc h3
    simp [i3, e]
    refine wp_truncG (by simp) (g2.over g3 (Nat.le_refl _)) (p2.grow g3 (Ne.symm hne)) hn fun L'' g p => h _ _ ?_ (SzP.trim hs) (trim_trim _) g p
    have := trim_len ps
    omega
theorem fn_law_leversS_eq {L : Lh} {N n : Nat} {xs : List Rat} (hx : L[n]? = some (.lst (xs.map fr))) (h : SzP N xs) (hd : Dis xs) (hl : xs.length ≤ 12) (hs : 100 * (N + 10) ≤ LIM) : fn_law_leversS [.loc n] L = .val (.loc L.length) (L ++ [.lst ((levs xs).map fr)]) := by
  have e1 : D.tup [.int 1, .int 1] = fr 1 := rfl
  have key : wpR (fn_law_leversS [.loc n] L) (fun d L' => d = .loc L.length ∧ L' = L ++ [.lst ((levs xs).map fr)]) noE := by
    unfold fn_law_leversS d_law_leversS
    refine wp_run rfl ?_
    have hx1 := get_app (X := [.lst []]) hx
    have pre0 : Pre L (L ++ [Cell.lst []]) := Pre.new
    simp [ltR_loc hx1]
    refine wp_for (fun k Γ L' => (∃ v2 v3 v4, Γ = [some (.loc n), some (.loc L.length), v2, v3, v4]) ∧ L'[L.length]? = some (.lst (((List.range k).map (lev xs)).map fr)) ∧ Pre L L') ⟨⟨_, _, _, rfl⟩, by simp, pre0⟩ (fun _ _ _ _ q => q.2.2.get hx) (fun k hk Γ L1 J hJ hI => ?_) (fun Γ L1 hI => ?_)
    · obtain ⟨⟨v2, v3, v4, rfl⟩, h1, pre1⟩ := hI
      have hk' : k < xs.length := by simpa using hk
      have hx2 := pre1.get hx
      simp only [List.getElem_map, ← at0_lt hk']
      have szp : ∀ j, j ≤ xs.length → Sz (12 * (2 * N + 3) + 1) (apN xs k j) := fun j hj => (apN_sz h k j).mono (by
        have := Nat.mul_le_mul (show j ≤ 12 by omega) (Nat.le_refl (2 * N + 3)); omega)
      have s0 : ∀ j, Sz (N + 1) (at0 xs j) := fun j => sz_at0 h j
      have hne := apN_ne hd hk' xs.length (Nat.le_refl _)
      simp [-Po.seq_nx, e1]
      rw [Po.seq_nx, wp_sSeq]
      simp [-Po.seq_nx, ltR_loc hx2]
      refine wp_for (fun i Γ L' => L' = L1 ∧ ∃ v4, Γ = [some (.loc n), some (.loc L.length), some (fr (at0 xs k)), some (fr (apN xs k i)), v4]) ⟨rfl, _, rfl⟩ (fun _ _ _ _ q => by rw [q.1]; exact hx2) (fun i hi Γ L' J2 hJ2 hI => ?_) (fun Γ L' hI => ?_)
      · obtain ⟨rfl, v4, rfl⟩ := hI
        have hi' : i < xs.length := by simpa using hi
        simp only [List.getElem_map, ← at0_lt hi']
        have z1 := fn_law_lessS_eq L' (p := at0 xs k) (q := at0 xs i) (Fit.of (s0 k) (by omega)) (Fit.of (s0 i) (by omega))
        have z2 := fn_law_timesS_eq L' (Fit.of (szp i (by omega)) (by omega)) (Fit.of ((s0 k).sub (s0 i)) (by omega))
        by_cases c : i = k
        · subst c
          simp
          exact hJ2 _ _ ⟨rfl, _, by rw [apN, if_pos rfl]⟩
        · have c2 := hd i k hi' hk' c
          simp [c2, z1, z2]
          exact hJ2 _ _ ⟨rfl, _, by rw [apN, if_neg c]⟩
      · obtain ⟨rfl, v4, rfl⟩ := hI
        have z3 := fn_law_overS_eq L' (p := 1) (Fit.of sz1 (by decide)) (Fit.of (szp xs.length (Nat.le_refl _)) (by omega)) hne
        have el : 1 / apN xs k xs.length = lev xs k := rfl
        rw [el] at z3
        rw [List.length_map]
        simp [h1, e1, z3]
        rw [mAppend_eq h1 (by simp; omega)]
        simp
        refine hJ _ _ ⟨⟨_, _, _, rfl⟩, ?_, pre1.set (Nat.le_refl _)⟩
        rw [List.range_succ, List.map_append, List.map_append]
        have := get_set (d := .lst (((List.range k).map (lev xs)).map fr ++ [fr (lev xs k)])) h1
        simpa using this
    · obtain ⟨⟨v2, v3, v4, rfl⟩, h1, pre1⟩ := hI
      simp
      rw [List.length_map] at h1
      exact wp_truncPL pre1 (Nat.le_refl _) h1 (closeds_frs _ _) ⟨rfl, rfl⟩
  obtain ⟨d, L', e, rfl, rfl⟩ := key.ex
  exact e
/-! ## sides, costs, witnesses: the code -/
def KS (q : List Rat) (s : Spo) (d : Int) : Prop := (d = 1 → ¬ ev q s.x < s.y) ∧ (d = -1 → ¬ s.y < ev q s.x)
def KSs (q : List Rat) (t : List Spo) (ds : List Int) : Prop := ∀ k (h : k < t.length), KS q t[k] (ds.getD k 0)
theorem limS {a n m : Nat} (ha : a ≤ 20) (h : n + m ≤ 2000000) : (a + 1) * (n + m + 2) + 1 ≤ LIM :=
  Nat.le_trans (Nat.add_le_add_right (Nat.mul_le_mul (show a + 1 ≤ 21 by omega) (show n + m + 2 ≤ 2000002 by omega)) 1) (by decide)
theorem getD_ints {ds : List Int} {k : Nat} (h : k < ds.length) : ds.getD k 0 = ds[k] := by simp [h]
theorem fn_keeps_side_eq {L : Lh} {N M : Nat} {q : List Rat} {s : Spo} {d : Int} (hs : Sz N s.x ∧ Sz N s.y ∧ Sz N s.w) (hq : SzP M q) (hl : q.length ≤ 20) (hN : M + N ≤ 100000) : fn_keeps_side [spD s, .int d, pol q] L = .val (.bl (decide (KS q s d))) L := by
  have z1 := fn_worth_eq (x := s.x) L hq hs.1 (limS hl (by omega))
  have se := (ev_sz hq hs.1 hl).mono (show 20 * (M + N + 2) + 1 ≤ 3000000 by omega)
  have z2 := fn_is_below_eq L (Fit.le se (by decide)) (Fit.le hs.2.1 (by omega))
  have z3 := fn_is_below_eq L (Fit.le hs.2.1 (by omega)) (Fit.le se (by decide))
  have k1 : k_NOT_LESS = .int 1 := rfl
  have k2 : k_NOT_GREATER = .int (-1) := rfl
  apply wpR.eq
  unfold fn_keeps_side d_keeps_side
  refine wp_run rfl ?_
  simp [z1, k1]
  by_cases c : d = 1
  · subst c
    have e : decide (KS q s 1) = !decide (ev q s.x < s.y) := by
      by_cases h : ev q s.x < s.y <;> simp [KS, h]
    simp [z2, e]
  · simp [c, k2]
    by_cases c2 : d = -1
    · subst c2
      have e : decide (KS q s (-1)) = !decide (s.y < ev q s.x) := by
        by_cases h : s.y < ev q s.x <;> simp [KS, h]
      simp [z3, e]
    · have e : KS q s d := ⟨fun h => absurd h c, fun h => absurd h c2⟩
      simp [c2, e]
theorem fn_keeps_sides_eq {L : Lh} {N M a b : Nat} {q : List Rat} {t : List Spo} {ds : List Int} (ht : L[a]? = some (.lst (t.map spD))) (hd : L[b]? = some (.lst (ds.map D.int))) (st : SzT N t) (hl : t.length = ds.length) (htl : t.length ≤ 100) (hq : SzP M q) (hql : q.length ≤ 20) (hN : M + N ≤ 100000) :
    fn_keeps_sides [.loc a, .loc b, pol q] L = .val (.bl (decide (KSs q t ds))) L := by
  apply wpR.eq
  unfold fn_keeps_sides d_keeps_sides
  refine wp_run rfl ?_
  simp [zpR_loc ht hd]
  refine wp_lcMap (fun k => .bl (decide (KS q (t.getD k ⟨0, 0, 0⟩) (ds.getD k 0)))) (by simp; omega) (fun _ => ⟨get_app ht, get_app hd⟩) (fun k hk acc => ?_) ?_
  · have hk' : k < t.length ∧ k < ds.length := by simp at hk; omega
    simp only [zipD_get, List.getElem_map]
    have z := fn_keeps_side_eq (L := L ++ [.lst acc]) (d := ds[k]) (st _ (List.getElem_mem hk'.1)) hq hql hN
    simp [z, hk'.1, hk'.2]
  · have e : (List.range (zipD (t.map spD) (ds.map D.int)).length).map (fun k => D.bl (decide (KS q (t.getD k ⟨0, 0, 0⟩) (ds.getD k 0)))) = (List.range t.length).map fun k => .bl (decide (KS q (t.getD k ⟨0, 0, 0⟩) (ds.getD k 0))) := by simp [hl]
    rw [e]
    have z := fAll_map (fun k => decide (KS q (t.getD k ⟨0, 0, 0⟩) (ds.getD k 0))) (get_last (L := L) (c := .lst ((List.range t.length).map fun k => .bl (decide (KS q (t.getD k ⟨0, 0, 0⟩) (ds.getD k 0))))))
    have e2 : (List.range t.length).all (fun k => decide (KS q (t.getD k ⟨0, 0, 0⟩) (ds.getD k 0))) = decide (KSs q t ds) := by
      by_cases c : KSs q t ds
      · rw [decide_eq_true c, List.all_eq_true]
        intro k hk
        have hk' := List.mem_range.mp hk
        have := c k hk'
        exact decide_eq_true (by simpa [hk'] using this)
      · rw [decide_eq_false c]
        refine Bool.eq_false_iff.mpr fun z => c fun k hk => ?_
        have := of_decide_eq_true (List.all_eq_true.mp z k (List.mem_range.mpr hk))
        simpa [hk] using this
    rw [e2] at z
    generalize (List.range t.length).map (fun k => D.bl (decide (KS q (t.getD k ⟨0, 0, 0⟩) (ds.getD k 0)))) = A at z ⊢
    simp [z, -fAll]
theorem fn_law_keepsS_eq {L : Lh} {N M a b : Nat} {q : List Rat} {t : List Spo} {ds : List Int} (ht : L[a]? = some (.lst (t.map spD))) (hd : L[b]? = some (.lst (ds.map D.int))) (st : SzT N t) (hl : t.length = ds.length) (htl : t.length ≤ 100) (hq : SzP M q) (hql : q.length ≤ 20) (hN : M + N ≤ 100000) :
    fn_law_keepsS [.loc a, .loc b, pol q] L = .val (.bl (decide (KSs q t ds))) L := by
  apply wpR.eq
  unfold fn_law_keepsS d_law_keepsS
  refine wp_run rfl ?_
  rw [wp_sSeq]
  simp [-Po.seq_nx, zpR_loc ht hd]
  refine wp_for (fun k Γ L' => L' = L ∧ (∃ v3 v4 v5 v6 v7, Γ = [some (.loc a), some (.loc b), some (pol q), v3, v4, v5, v6, v7]) ∧ ∀ i (hi : i < t.length), i < k → KS q t[i] (ds.getD i 0)) ⟨rfl, ⟨_, _, _, _, _, rfl⟩, fun i hi h => absurd h (by omega)⟩ (fun _ _ _ _ hI => by rw [hI.1]; exact ⟨ht, hd⟩) (fun k hk Γ L' J hJ hI => ?_) (fun Γ L' hI => ?_)
  · obtain ⟨rfl, ⟨v3, v4, v5, v6, v7, rfl⟩, hal⟩ := hI
    have hk' : k < t.length ∧ k < ds.length := by simp at hk; omega
    have hmem := List.getElem_mem hk'.1
    have hs := st _ hmem
    have z1 := fn_law_worthS_eq (x := (t[k]).x) L' hq hs.1 (limS hql (by omega))
    have se := (ev_sz hq hs.1 hql).mono (show 20 * (M + N + 2) + 1 ≤ 3000000 by omega)
    have z2 := fn_law_aheadS_eq L' (Fit.le se (by decide)) (Fit.le hs.2.1 (by omega))
    have z3 := fn_law_aheadS_eq L' (Fit.le hs.2.1 (by omega)) (Fit.le se (by decide))
    have yes : KS q t[k] ds[k] → ∀ i (hi : i < t.length), i < k + 1 → KS q t[i] (ds.getD i 0) := fun h i hi hik => by
      rcases Nat.lt_or_ge i k with c | c
      · exact hal i hi c
      · have : i = k := by omega
        subst this; rw [getD_ints hk'.2]; exact h
    have no : ¬ KS q t[k] ds[k] → decide (KSs q t ds) = false := fun h => decide_eq_false fun z => h (by have := z k hk'.1; rwa [getD_ints hk'.2] at this)
    simp only [zipD_get, List.getElem_map]
    generalize t[k] = s at *
    generalize ds[k] = d at *
    simp [-Po.seq_nx, z1]
    rw [Po.seq_nx]
    by_cases c : d = 1
    · subst c
      by_cases h : ev q s.x < s.y
      · have kk : ¬ KS q s 1 := fun z => z.1 rfl h
        simp [z2, h, no kk]
      · have kk : KS q s 1 := ⟨fun _ => h, fun z => absurd z (by decide)⟩
        simp [z2, h]
        exact hJ _ _ ⟨rfl, ⟨_, _, _, _, _, rfl⟩, yes kk⟩
    · by_cases c2 : d = -1
      · subst c2
        by_cases h : s.y < ev q s.x
        · have kk : ¬ KS q s (-1) := fun z => z.2 rfl h
          simp [z3, h, no kk]
        · have kk : KS q s (-1) := ⟨fun z => absurd z (by decide), fun _ => h⟩
          simp [z3, h]
          exact hJ _ _ ⟨rfl, ⟨_, _, _, _, _, rfl⟩, yes kk⟩
      · have kk : KS q s d := ⟨fun h => absurd h c, fun h => absurd h c2⟩
        simp [c, c2]
        exact hJ _ _ ⟨rfl, ⟨_, _, _, _, _, rfl⟩, yes kk⟩
  · obtain ⟨rfl, ⟨v3, v4, v5, v6, v7, rfl⟩, hal⟩ := hI
    have e : decide (KSs q t ds) = true := decide_eq_true fun i hi => hal i hi (by simp; omega)
    simp [e]
/-! costs -/
def cF (t : List Spo) (ds : List Int) (ws : List Rat) (k : Nat) : Rat := if at0 ws k ≠ 0 ∧ sgn (at0 ws k) ≠ ds.getD k 0 then rabs (at0 ws k) / at0 (wsO t) k else 0
def costR (t : List Spo) (ds : List Int) (ws : List Rat) : Rat := sumN (cF t ds ws) t.length
theorem cF_sz {N W : Nat} {t : List Spo} {ds : List Int} {ws : List Rat} (st : SzT N t) (wt : WPos t) (hw : SzP W ws) {k : Nat} (hk : k < t.length) : Sz (W + N + 2) (cF t ds ws k) := by
  unfold cF
  split
  · have h1 : Sz N (at0 (wsO t) k) := by rw [wsO_at hk]; exact (st _ (List.getElem_mem hk)).2.2
    have h0 : at0 (wsO t) k ≠ 0 := by rw [wsO_at hk]; have := wt _ (List.getElem_mem hk); intro z; rw [z] at this; exact Rat.lt_irrefl this
    exact (((sz_at0 hw k).abs).div h1 h0).mono (by omega)
  · exact sz0.mono (by omega)
theorem sgn_ne0 (q : Rat) : (sgn q ≠ 0) = (q ≠ 0) := propext (by unfold sgn; grind)
theorem sgn_1 {q : Rat} (h : 0 < q.num) : sgn q = 1 ∧ q ≠ 0 := by
  have h2 : 0 < q := by rw [Rat.lt_iff]; simpa using h
  exact ⟨by unfold sgn; rw [if_pos h2], by intro z; rw [z] at h2; exact Rat.lt_irrefl h2⟩
theorem sgn_m1 {q : Rat} (h : q.num < 0) : sgn q = -1 ∧ q ≠ 0 := by
  have h2 : q < 0 := by rw [Rat.lt_iff]; simpa using h
  exact ⟨by unfold sgn; rw [if_neg (by grind), if_pos h2], by intro z; rw [z] at h2; exact Rat.lt_irrefl h2⟩
theorem fn_cost_eq {L : Lh} {N W a b c : Nat} {t : List Spo} {ds : List Int} {ws : List Rat} (ht : L[a]? = some (.lst (t.map spD))) (hd : L[b]? = some (.lst (ds.map D.int))) (hw : L[c]? = some (.lst (ws.map fr))) (st : SzT N t) (wt : WPos t) (sw : SzP W ws) (hl : t.length = ds.length) (hl2 : t.length = ws.length) (htl : t.length ≤ 20) (hN : N + W ≤ 100000) :
    fn_cost [.loc a, .loc b, .loc c] L = .val (fr (costR t ds ws)) L := by
  have e0 : k_NOUGHT_sides = fr 0 := rfl
  apply wpR.eq
  unfold fn_cost d_cost
  refine wp_run rfl ?_
  simp [-Po.seq_nx, e0]
  rw [Po.seq_nx, wp_sSeq]
  simp [-Po.seq_nx, zp3R_loc ht hd hw]
  refine wp_for (fun k Γ L' => L' = L ∧ (∃ v4 v5 v6 v7 v8, Γ = [some (.loc a), some (.loc b), some (.loc c), some (fr (sumN (cF t ds ws) k)), v4, v5, v6, v7, v8])) ⟨rfl, ⟨_, _, _, _, _, rfl⟩⟩ (fun _ _ _ _ hI => by rw [hI.1]; exact ⟨ht, hd, hw⟩) (fun k hk Γ L' J hJ hI => ?_) (fun Γ L' hI => ?_)
  · obtain ⟨rfl, ⟨v4, v5, v6, v7, v8, rfl⟩⟩ := hI
    have hk' : k < t.length ∧ k < ds.length ∧ k < ws.length := by simp at hk; omega
    have hs := st _ (List.getElem_mem hk'.1)
    have w0 := wt _ (List.getElem_mem hk'.1)
    have sk := sw _ (List.getElem_mem hk'.2.2)
    have sS : Sz 3000000 (sumN (cF t ds ws) k) := (sumN_sz (b := W + N + 2) fun i hi => cF_sz st wt sw (by omega)).mono (by
      have := Nat.mul_le_mul (show k ≤ 20 by omega) (Nat.le_refl (W + N + 2 + 1)); omega)
    have eS : sumN (cF t ds ws) (k + 1) = sumN (cF t ds ws) k + (if ws[k] ≠ 0 ∧ sgn ws[k] ≠ ds[k] then rabs ws[k] / (t[k]).w else 0) := by
      rw [sumN, cF, at0_lt hk'.2.2, wsO_at hk'.1, getD_ints hk'.2.1]
    have hcd : Sz (W + N + 2) (rabs ws[k] / (t[k]).w) := (sk.abs.div hs.2.2 (by intro z; rw [z] at w0; exact Rat.lt_irrefl w0)).mono (by omega)
    have z1 := fn_sign_eq L' ws[k]
    have z2 := fn_bare_eq (q := ws[k]) L'
    have z3 := fn_over_eq L' (Fit.le sk.abs (by omega)) (Fit.le hs.2.2 (by omega)) (show (t[k]).w ≠ 0 by intro z; rw [z] at w0; exact Rat.lt_irrefl w0)
    have z4 := fn_plus_eq L' (Fit.le sS (by decide)) (Fit.le hcd (by omega))
    simp only [zip3D_get, List.getElem_map]
    generalize sumN (cF t ds ws) k = S at *
    generalize ws[k] = w at *
    generalize t[k] = s at *
    generalize ds[k] = d at *
    simp [z1]
    by_cases c1 : w = 0
    · have s0 : sgn w = 0 := by rw [c1]; rfl
      simp [s0]
      exact hJ _ _ ⟨rfl, ⟨some (fr s.x), some (fr s.y), some (fr s.w), some (.int d), some (fr w), by rw [eS, if_neg (fun z => z.1 c1), Rat.add_zero, c1]⟩⟩
    · have s0 : sgn w ≠ 0 := by rw [sgn_ne0]; exact c1
      by_cases c2 : sgn w = d
      · have d0 : d ≠ 0 := c2 ▸ s0
        simp [z1, c2, d0]
        exact hJ _ _ ⟨rfl, ⟨some (fr s.x), some (fr s.y), some (fr s.w), some (.int d), some (fr w), by rw [eS, if_neg (fun z => z.2 c2), Rat.add_zero]⟩⟩
      · simp [s0, z1, c2, z2, z3, z4]
        exact hJ _ _ ⟨rfl, ⟨_, _, _, _, _, by rw [eS, if_pos ⟨c1, c2⟩]⟩⟩
  · obtain ⟨rfl, ⟨v4, v5, v6, v7, v8, rfl⟩⟩ := hI
    have e : (zip3D (t.map spD) (ds.map D.int) (ws.map fr)).length = t.length := by simp; omega
    simp only [e] 
    simp [costR]
theorem fn_law_costS_eq {L : Lh} {N W a b c : Nat} {t : List Spo} {ds : List Int} {ws : List Rat} (ht : L[a]? = some (.lst (t.map spD))) (hd : L[b]? = some (.lst (ds.map D.int))) (hw : L[c]? = some (.lst (ws.map fr))) (st : SzT N t) (wt : WPos t) (sw : SzP W ws) (hl : t.length = ds.length) (hl2 : t.length = ws.length) (htl : t.length ≤ 20) (hN : N + W ≤ 100000) :
    fn_law_costS [.loc a, .loc b, .loc c] L = .val (fr (costR t ds ws)) L := by
  have e0 : D.tup [.int 0, .int 1] = fr 0 := rfl
  apply wpR.eq
  unfold fn_law_costS d_law_costS
  refine wp_run rfl ?_
  simp [-Po.seq_nx, e0]
  rw [Po.seq_nx, wp_sSeq]
  simp [-Po.seq_nx, zp3R_loc ht hd hw]
  refine wp_for (fun k Γ L' => L' = L ∧ (∃ v4 v5 v6 v7 v8 v9, Γ = [some (.loc a), some (.loc b), some (.loc c), some (fr (sumN (cF t ds ws) k)), v4, v5, v6, v7, v8, v9])) ⟨rfl, ⟨_, _, _, _, _, _, rfl⟩⟩ (fun _ _ _ _ hI => by rw [hI.1]; exact ⟨ht, hd, hw⟩) (fun k hk Γ L' J hJ hI => ?_) (fun Γ L' hI => ?_)
  · obtain ⟨rfl, ⟨v4, v5, v6, v7, v8, v9, rfl⟩⟩ := hI
    have hk' : k < t.length ∧ k < ds.length ∧ k < ws.length := by simp at hk; omega
    have hs := st _ (List.getElem_mem hk'.1)
    have w0 := wt _ (List.getElem_mem hk'.1)
    have sk := sw _ (List.getElem_mem hk'.2.2)
    have sS : Sz 3000000 (sumN (cF t ds ws) k) := (sumN_sz (b := W + N + 2) fun i hi => cF_sz st wt sw (by omega)).mono (by
      have := Nat.mul_le_mul (show k ≤ 20 by omega) (Nat.le_refl (W + N + 2 + 1)); omega)
    have eS : sumN (cF t ds ws) (k + 1) = sumN (cF t ds ws) k + (if ws[k] ≠ 0 ∧ sgn ws[k] ≠ ds[k] then rabs ws[k] / (t[k]).w else 0) := by
      rw [sumN, cF, at0_lt hk'.2.2, wsO_at hk'.1, getD_ints hk'.2.1]
    have hcd : Sz (W + N + 2) (rabs ws[k] / (t[k]).w) := (sk.abs.div hs.2.2 (by intro z; rw [z] at w0; exact Rat.lt_irrefl w0)).mono (by omega)
    have z3 := fn_law_overS_eq L' (Fit.le sk.abs (by omega)) (Fit.le hs.2.2 (by omega)) (show (t[k]).w ≠ 0 by intro z; rw [z] at w0; exact Rat.lt_irrefl w0)
    have z4 := fn_law_plusS_eq L' (Fit.le sS (by decide)) (Fit.le hcd (by omega))
    simp only [zip3D_get, List.getElem_map]
    generalize sumN (cF t ds ws) k = S at *
    generalize ws[k] = w at *
    generalize t[k] = s at *
    generalize ds[k] = d at *
    have ab : D.tup [.int (if w.num < 0 then -w.num else w.num), .int w.den] = fr (rabs w) := by
      rw [fr_abs]; congr 3; split <;> omega
    have step : w ≠ 0 → sgn w ≠ d → wpS ((sSet 3 (eCall fn_law_plusS (aCons (eVar 3) (aCons (eCall fn_law_overS (aCons (eTup (aCons (eCall fAbs (aCons (eVar 8) aNil)) (aCons (eVar 9) aNil))) (aCons (eVar 6) aNil))) aNil)))) [some (.loc a), some (.loc b), some (.loc c), some (fr S), some (fr s.x), some (fr s.y), some (fr s.w), some (.int d), some (.int w.num), some (.int w.den)] L') (Po.loop (Po.seq (Po.fn L' (fun b L1 => b = fr (costR t ds ws) ∧ L1 = L') noE) (sRet (eVar 3))) J) := fun c1 c2 => by
      simp [ab, z3, z4]
      exact hJ _ _ ⟨rfl, ⟨_, _, _, _, _, _, by rw [eS, if_pos ⟨c1, c2⟩]⟩⟩
    have skip : (w = 0 ∨ sgn w = d) → J [some (.loc a), some (.loc b), some (.loc c), some (fr S), some (fr s.x), some (fr s.y), some (fr s.w), some (.int d), some (.int w.num), some (.int w.den)] L' := fun h =>
      hJ _ _ ⟨rfl, ⟨some (fr s.x), some (fr s.y), some (fr s.w), some (.int d), some (.int w.num), some (.int w.den), by
        have e : ¬ (w ≠ 0 ∧ sgn w ≠ d) := fun z => h.elim z.1 z.2
        rw [eS, if_neg e, Rat.add_zero]⟩⟩
    rcases Int.lt_trichotomy w.num 0 with c1 | c1 | c1
    · obtain ⟨e1, e2⟩ := sgn_m1 c1
      have c3 : ¬ 0 < w.num := by omega
      by_cases c2 : d = -1
      · simp [-wp_sSet, c3, c1, c2]
        have := skip (.inr (by rw [e1, c2]))
        rw [c2] at this
        exact this
      · simp [-wp_sSet, -sSet, c3, c1, c2]
        exact step e2 (by rw [e1]; exact fun z => c2 z.symm)
    · have w0 : w = 0 := Rat.num_eq_zero.mp c1
      simp [-wp_sSet, -sSet, w0]
      have := skip (.inl w0)
      rw [w0] at this
      exact this
    · obtain ⟨e1, e2⟩ := sgn_1 c1
      have c3 : ¬ w.num < 0 := by omega
      by_cases c2 : d = 1
      · simp [-wp_sSet, -sSet, c3, c1, c2]
        have := skip (.inr (by rw [e1, c2]))
        rw [c2] at this
        exact this
      · simp [-wp_sSet, -sSet, c3, c1, c2]
        exact step e2 (by rw [e1]; exact fun z => c2 z.symm)
  · obtain ⟨rfl, ⟨v4, v5, v6, v7, v8, v9, rfl⟩⟩ := hI
    have e : (zip3D (t.map spD) (ds.map D.int) (ws.map fr)).length = t.length := by simp; omega
    simp only [e]
    simp [costR]
/-! ## witnesses: the code -/
def wk (xs ws : List Rat) (k i : Nat) : Rat := at0 ws i * at0 xs i ^ k
def wks (xs ws : List Rat) (k : Nat) : List Rat := (List.range ws.length).map (wk xs ws k)
@[simp] theorem wks_len (xs ws : List Rat) (k : Nat) : (wks xs ws k).length = ws.length := by simp [wks]
theorem wks_at {xs ws : List Rat} {k i : Nat} (h : i < ws.length) : at0 (wks xs ws k) i = wk xs ws k i := at0_map h
theorem wks_zero (xs ws : List Rat) : wks xs ws 0 = ws := List.ext_getElem (by simp) fun i h1 h2 => by
  simp only [wks, List.getElem_map, List.getElem_range, wk]
  rw [Rat.pow_zero, Rat.mul_one, at0_lt h2]
theorem wks_szP {N W : Nat} {xs ws : List Rat} (hx : SzP N xs) (hw : SzP W ws) : ∀ k, SzP (W + 1 + k * (N + 2)) (wks xs ws k) := by
  have key : ∀ k i, Sz (W + 1 + k * (N + 2)) (wk xs ws k i) := by
    intro k i
    induction k with
    | zero => simp only [wk]; rw [Rat.pow_zero, Rat.mul_one]; exact (sz_at0 hw i).mono (by omega)
    | succ k ih =>
      have e : wk xs ws (k + 1) i = wk xs ws k i * at0 xs i := by simp only [wk]; rw [Rat.pow_succ, Rat.mul_assoc]
      rw [e]
      exact (ih.mul (sz_at0 hx i)).mono (by rw [Nat.succ_mul]; omega)
  intro k p hp
  obtain ⟨i, _, rfl⟩ := List.mem_map.mp hp
  exact key k i
theorem wks_succ {xs ws : List Rat} (k : Nat) : (List.range ws.length).map (fun i => fr (at0 (wks xs ws k) i * at0 xs i)) = (wks xs ws (k + 1)).map fr := List.ext_getElem (by simp) fun i h1 h2 => by
  simp only [wks, List.getElem_map, List.getElem_range]
  have hi : i < ws.length := by simpa using h1
  rw [at0_map hi]
  simp only [wk]
  rw [Rat.pow_succ, Rat.mul_assoc]
def mom (xs ws : List Rat) (k : Nat) : Rat := sumN (at0 (wks xs ws k)) ws.length
def Wit (xs ws : List Rat) (m : Nat) : Prop := ∀ k, k < m → mom xs ws k = 0
theorem fn_added_eq {L : Lh} {b n : Nat} {ps : List Rat} (h : L[n]? = some (.lst (ps.map fr))) (hs : SzP b ps) (hb : ps.length * (b + 2) + 1 ≤ LIM) : fn_added [.loc n] L = .val (fr (sumN (at0 ps) ps.length)) L := by
  have e0 : k_NOUGHT = fr 0 := rfl
  apply wpR.eq
  unfold fn_added d_added
  refine wp_run rfl ?_
  simp [e0, ltR_loc h]
  refine wp_for (fun k Γ L' => L' = L ∧ ∃ v, Γ = [some (.loc n), some (fr (sumN (at0 ps) k)), v]) ⟨rfl, _, rfl⟩ (fun _ _ _ _ q => by rw [q.1]; exact h) (fun k hk Γ L' J hJ hI => ?_) (fun Γ L' hI => ?_)
  · obtain ⟨rfl, v, rfl⟩ := hI
    have hk' : k < ps.length := by simpa using hk
    have s1 : Sz (k * (b + 2) + 1) (sumN (at0 ps) k) := sumN_sz fun i _ => sz_at0 hs i
    have m1 := Nat.mul_le_mul (show k ≤ ps.length by omega) (Nat.le_refl (b + 2))
    have m2 := Nat.mul_le_mul (show 1 ≤ ps.length by omega) (Nat.le_refl (b + 2))
    have z := fn_plus_eq L' (Fit.of s1 (by omega)) (Fit.of (sz_at0 hs k) (by omega))
    simp only [List.getElem_map, ← at0_lt hk']
    simp [z]
    exact hJ _ _ ⟨rfl, _, rfl⟩
  · obtain ⟨rfl, v, rfl⟩ := hI
    simp
theorem lt_limW {n W N k : Nat} (hn : n ≤ 12) (hN : N ≤ 1000) (hW : W ≤ 1000) (hk : k ≤ 10) : n * (W + 1 + k * (N + 2) + 2) + 1 ≤ LIM := by
  have h1 : k * (N + 2) ≤ 10 * 1002 := Nat.mul_le_mul hk (by omega)
  have h2 : n * (W + 1 + k * (N + 2) + 2) ≤ 12 * 20000 := Nat.mul_le_mul hn (by omega)
  have : 12 * 20000 + 1 ≤ LIM := by decide
  omega
theorem fn_is_witness_eq {L : Lh} {N W a c m : Nat} {i : Int} {t : List Spo} {ws : List Rat} (ht : L[a]? = some (.lst (t.map spD))) (hw : L[c]? = some (.lst (ws.map fr))) (st : SzT N t) (sw : SzP W ws) (hl : t.length = ws.length) (htl : t.length ≤ 12) (hN : N ≤ 1000) (hW : W ≤ 1000) (hi : i + 1 = (m : Int)) (hm : m ≤ 10) :
    fn_is_witness [.loc a, .int i, .loc c] L = .val (.bl (decide (Wit (xsO t) ws m))) L := by
  have e0 : k_NOUGHT_sides = fr 0 := rfl
  have sx : SzP N (xsO t) := fun p hp => by obtain ⟨s, hs, rfl⟩ := List.mem_map.mp hp; exact (st s hs).1
  apply wpR.eq
  unfold fn_is_witness d_is_witness
  refine wp_run rfl ?_
  have ic := items_loc hw
  simp [-Po.seq_nx, hw, ic, hi, show m ≤ 1000000 by omega, e0]
  have h0 := get_last (L := L) (c := .lst (ws.map fr))
  have pre0 : Pre L (L ++ [.lst (ws.map fr)]) := Pre.new
  rw [Po.seq_nx, wp_sSeq]
  simp [-Po.seq_nx, hi, show m ≤ 1000000 by omega, e0]
  refine wp_for (fun k Γ L' => ∃ n v4 v5 v6 v7 v8, Γ = [some (.loc a), some (.int i), some (.loc c), some (.loc n), v4, v5, v6, v7, v8] ∧ L'[n]? = some (.lst ((wks (xsO t) ws k).map fr)) ∧ Pre L L' ∧ Wit (xsO t) ws k) ⟨_, _, _, _, _, _, rfl, by rw [wks_zero]; exact h0, pre0, fun _ h => absurd h (by omega)⟩ (fun _ _ _ _ _ => trivial) (fun k hk Γ L1 J hJ hI => ?_) (fun Γ L1 hI => ?_)
  · obtain ⟨n, v4, v5, v6, v7, v8, rfl, h1, pre1, wit⟩ := hI
    have hk' : k < m := by simpa using hk
    have sk := wks_szP sx sw k
    have z := fn_added_eq (L := L1) h1 sk (by rw [wks_len]; exact lt_limW (by omega) hN hW (by omega))
    rw [wks_len] at z
    change fn_added [.loc n] L1 = .val (fr (mom (xsO t) ws k)) L1 at z
    simp only [rngD_get]
    simp [-Po.seq_nx, z]
    by_cases c0 : mom (xsO t) ws k = 0
    · have ta := pre1.get ht
      simp [c0, zpR_loc ta h1]
      refine wp_lcMap (fun i => fr (at0 (wks (xsO t) ws k) i * at0 (xsO t) i)) (by simp; omega) (fun _ => ⟨get_app ta, get_app h1⟩) (fun j hj acc => ?_) ?_
      · have hj' : j < t.length ∧ j < ws.length := by simp at hj; omega
        have s1 := sz_at0 sk j
        have s2 := sz_at0 sx j
        have b2 : 2000 ≤ LIM := by decide
        have b1 := lt_limW (n := 1) (by omega) hN hW (show k ≤ 10 by omega)
        have z2 := fn_times_eq (L1 ++ [.lst acc]) (Fit.of s1 (by omega)) (Fit.of s2 (by omega))
        have ex : (t[j]'hj'.1).x = at0 (xsO t) j := by rw [at0_lt (by simpa [xsO] using hj'.1)]; simp [xsO]
        have ew : (wks (xsO t) ws k)[j]'(by simp; omega) = at0 (wks (xsO t) ws k) j := (at0_lt _).symm
        simp only [zipD_get, List.getElem_map, ew]
        rw [← ex] at z2 ⊢
        simp [z2]
      · have e : (zipD (t.map spD) ((wks (xsO t) ws k).map fr)).length = ws.length := by simp; omega
        rw [e, wks_succ]
        simp
        refine hJ _ _ ⟨_, _, _, _, _, _, rfl, get_last, pre1.app, fun j hj => ?_⟩
        rcases Nat.lt_or_ge j k with h | h
        · exact wit j h
        · rw [show j = k by omega]; exact c0
    · have no : decide (Wit (xsO t) ws m) = false := decide_eq_false fun z => c0 (z k hk')
      simp [c0, no]
      refine wp_truncP pre1 (by simp) ?_; exact ⟨rfl, rfl⟩
  · obtain ⟨n, v4, v5, v6, v7, v8, rfl, h1, pre1, wit⟩ := hI
    have yes : decide (Wit (xsO t) ws m) = true := decide_eq_true (by simpa using wit)
    simp [yes]
    refine wp_truncP pre1 (by simp) ?_; exact ⟨rfl, rfl⟩
theorem fn_law_is_witnessS_eq {L : Lh} {N W a c m : Nat} {i : Int} {t : List Spo} {ws : List Rat} (ht : L[a]? = some (.lst (t.map spD))) (hw : L[c]? = some (.lst (ws.map fr))) (st : SzT N t) (sw : SzP W ws) (hl : t.length = ws.length) (htl : t.length ≤ 12) (hN : N ≤ 1000) (hW : W ≤ 1000) (hi : i + 1 = (m : Int)) (hm : m ≤ 10) :
    fn_law_is_witnessS [.loc a, .int i, .loc c] L = .val (.bl (decide (Wit (xsO t) ws m))) L := by
  have e0 : D.tup [.int 0, .int 1] = fr 0 := rfl
  have sx : SzP N (xsO t) := fun p hp => by obtain ⟨s, hs, rfl⟩ := List.mem_map.mp hp; exact (st s hs).1
  apply wpR.eq
  unfold fn_law_is_witnessS d_law_is_witnessS
  refine wp_run rfl ?_
  have ic := items_loc hw
  simp [-Po.seq_nx, hw, ic, hi, show m ≤ 1000000 by omega, e0]
  have h0 := get_last (L := L) (c := .lst (ws.map fr))
  have pre0 : Pre L (L ++ [.lst (ws.map fr)]) := Pre.new
  rw [Po.seq_nx, wp_sSeq]
  simp [-Po.seq_nx, hi, show m ≤ 1000000 by omega, e0]
  refine wp_for (fun k Γ L' => ∃ n v4 v5 v6 v7, Γ = [some (.loc a), some (.int i), some (.loc c), some (.loc n), v4, v5, v6, v7] ∧ L'[n]? = some (.lst ((wks (xsO t) ws k).map fr)) ∧ Pre L L' ∧ Wit (xsO t) ws k) ⟨_, _, _, _, _, rfl, by rw [wks_zero]; exact h0, pre0, fun _ h => absurd h (by omega)⟩ (fun _ _ _ _ _ => trivial) (fun k hk Γ L1 J hJ hI => ?_) (fun Γ L1 hI => ?_)
  · obtain ⟨n, v4, v5, v6, v7, rfl, h1, pre1, wit⟩ := hI
    have hk' : k < m := by simpa using hk
    have sk := wks_szP sx sw k
    simp only [rngD_get]
    simp [-Po.seq_nx]
    rw [Po.seq_nx, wp_sSeq]
    simp [-Po.seq_nx, e0, ltR_loc h1]
    refine wp_for (fun j Γ L' => L' = L1 ∧ ∃ v6, Γ = [some (.loc a), some (.int i), some (.loc c), some (.loc n), some (.int (k : Nat)), some (fr (sumN (at0 (wks (xsO t) ws k)) j)), v6, v7]) ⟨rfl, _, rfl⟩ (fun _ _ _ _ q => by rw [q.1]; exact h1) (fun j hj Γ L' J2 hJ2 hI => ?_) (fun Γ L' hI => ?_)
    · obtain ⟨rfl, v6, rfl⟩ := hI
      have hj' : j < (wks (xsO t) ws k).length := by simpa using hj
      have hj2 : j < ws.length := by simpa using hj'
      have s1 : Sz (j * (W + 1 + k * (N + 2) + 2) + 1) (sumN (at0 (wks (xsO t) ws k)) j) := sumN_sz fun i _ => sz_at0 sk i
      have b1 := lt_limW (n := j) (by omega) hN hW (show k ≤ 10 by omega)
      have b2 := lt_limW (n := 1) (by omega) hN hW (show k ≤ 10 by omega)
      have z := fn_law_plusS_eq L' (Fit.of s1 (by omega)) (Fit.of (sz_at0 sk j) (by omega))
      simp only [List.getElem_map, ← at0_lt hj']
      simp [z]
      exact hJ2 _ _ ⟨rfl, _, rfl⟩
    · obtain ⟨rfl, v6, rfl⟩ := hI
      have em : sumN (at0 (wks (xsO t) ws k)) ws.length = mom (xsO t) ws k := rfl
      simp [-Po.seq_nx, em]
      by_cases c0 : mom (xsO t) ws k = 0
      · have ta := pre1.get ht
        simp [e0, c0, zpR_loc h1 ta]
        refine wp_lcMap (fun i => fr (at0 (wks (xsO t) ws k) i * at0 (xsO t) i)) (by simp; omega) (fun _ => ⟨get_app h1, get_app ta⟩) (fun j hj acc => ?_) ?_
        · have hj' : j < t.length ∧ j < ws.length := by simp at hj; omega
          have s1 := sz_at0 sk j
          have s2 := sz_at0 sx j
          have b2 : 2000 ≤ LIM := by decide
          have b1 := lt_limW (n := 1) (by omega) hN hW (show k ≤ 10 by omega)
          have z2 := fn_law_timesS_eq (L' ++ [.lst acc]) (Fit.of s1 (by omega)) (Fit.of s2 (by omega))
          have ex : (t[j]'hj'.1).x = at0 (xsO t) j := by rw [at0_lt (by simpa [xsO] using hj'.1)]; simp [xsO]
          have ew : (wks (xsO t) ws k)[j]'(by simp; omega) = at0 (wks (xsO t) ws k) j := (at0_lt _).symm
          simp only [zipD_get, List.getElem_map, ew]
          rw [← ex] at z2 ⊢
          simp [z2]
        · have e : (zipD ((wks (xsO t) ws k).map fr) (t.map spD)).length = ws.length := by simp; omega
          rw [e, wks_succ]
          simp
          refine hJ _ _ ⟨_, _, _, _, _, rfl, get_last, pre1.app, fun j hj => ?_⟩
          rcases Nat.lt_or_ge j k with h | h
          · exact wit j h
          · rw [show j = k by omega]; exact c0
      · have no : decide (Wit (xsO t) ws m) = false := decide_eq_false fun z => c0 (z k hk')
        simp [e0, c0, no]
        refine wp_truncP pre1 (by simp) ?_; exact ⟨rfl, rfl⟩
  · obtain ⟨n, v4, v5, v6, v7, rfl, h1, pre1, wit⟩ := hI
    have yes : decide (Wit (xsO t) ws m) = true := decide_eq_true (by simpa using wit)
    simp [yes]
    refine wp_truncP pre1 (by simp) ?_; exact ⟨rfl, rfl⟩
noncomputable def d_law_spotS : S3 :=
    (sSeq (sSet 3 (eCall fn_law_worthS (aCons (eVar 2) (aCons (eVar 1) aNil))))
    (sSeq (sIf (tE (eOp fEq (eCall fn_law_drawS (aCons (eVar 0) (aCons (eC (.int 2)) aNil))) (eC (.int 0)))) (sSet 3 (eCall fn_law_plusS (aCons (eVar 3) (aCons (eCall fn_law_numberS (aCons (eVar 0) aNil)) aNil)))) sNext)
    (sRet (eTup (aCons (eVar 1) (aCons (eVar 3) (aCons (eCall fn_law_weightS (aCons (eVar 0) aNil)) aNil)))))))
noncomputable def fn_law_spotS : Fn3 := run3 3 4 d_law_spotS
noncomputable def d_law_addedS : S3 :=
    (sSeq (sSet 3 (eCall fn_law_drawS (aCons (eVar 0) (aCons (eOp fShl (eC (.int 1)) (eCall fLen (aCons (eVar 1) aNil))) aNil))))
    (sSeq (sSet 4 (eLc (iR1 (aCons (eCall fLen (aCons (eVar 1) aNil)) aNil)) (gN 5) (tE (eOp fEq (eOp fBand (eOp fShr (eVar 3) (eVar 5)) (eC (.int 1))) (eC (.int 1)))) (eVar 5) [5]))
    (sSeq (sSet 6 (eCall fn_law_numberS (aCons (eVar 0) aNil)))
    (sSeq (sSet 7 (eCall fList (aCons (eVar 2) aNil)))
    (sSeq (sIf (tE (eOp fGt (eCall fLen (aCons (eVar 4) aNil)) (eC (.int 1)))) (sFor (iZp (eVar 4) (eCall fn_law_leversS (aCons (eLc (iLT (eVar 4)) (gN 5) tTrue (eOp fIx (eOp fIx (eVar 1) (eVar 5)) (eC (.int 0))) [5]) aNil))) (gT 2 (gCons3 (gN 5) (gCons3 (gN 8) gNil3))) (sAsg (eCall fn_law_plusS (aCons (eOp fIx (eVar 7) (eVar 5)) (aCons (eCall fn_law_timesS (aCons (eVar 6) (aCons (eVar 8) aNil))) aNil))) (gS (eVar 7) (eVar 5)))) sNext)
    (sRet (eVar 7)))))))
noncomputable def fn_law_addedS : Fn3 := run3 3 9 d_law_addedS
noncomputable def d_law_shortS : S3 :=
    (sSeq (sIf (tE (eCall fAll (aCons (eLc (iLT (eVar 1)) (gT 2 (gCons3 (gN 2) (gCons3 (gN 3) gNil3))) tTrue (eAnd (eOp fLt (eCall fAbs (aCons (eVar 2) aNil)) (eOp fPow (eC (.int 10)) (eC (.int 12)))) (eOp fLt (eVar 3) (eOp fPow (eC (.int 10)) (eC (.int 12))))) [2, 3]) aNil))) (sRet (eVar 1)) sNext)
    (sSeq (sSet 4 (eLc (iLT (eSl (eVar 0) oNo (oSo (eC (.int 4))))) (gN 5) tTrue (eOp fIx (eVar 5) (eC (.int 0))) [5]))
    (sRet (eOp fAdd (eCall fn_law_leversS (aCons (eVar 4) aNil)) (eOp fMul (eLst (aCons (eTup (aCons (eC (.int 0)) (aCons (eC (.int 1)) aNil))) aNil)) (eOp fSub (eCall fLen (aCons (eVar 0) aNil)) (eCall fLen (aCons (eVar 4) aNil))))))))
noncomputable def fn_law_shortS : Fn3 := run3 2 6 d_law_shortS
noncomputable def d_law_witnessS : S3 :=
    (sSeq (sSet 2 (eCall fn_law_drawS (aCons (eVar 0) (aCons (eC (.int 4)) aNil))))
    (sSeq (sIf (tE (eOp fEq (eVar 2) (eC (.int 0)))) (sRet (eLc (iLT (eVar 1)) (gN 3) tTrue (eCall fn_law_numberS (aCons (eVar 0) aNil)) [3])) sNext)
    (sSeq (sSet 4 (eCall fn_law_addedS (aCons (eVar 0) (aCons (eVar 1) (aCons (eCall fn_law_addedS (aCons (eVar 0) (aCons (eVar 1) (aCons (eOp fMul (eLst (aCons (eTup (aCons (eC (.int 0)) (aCons (eC (.int 1)) aNil))) aNil)) (eCall fLen (aCons (eVar 1) aNil))) aNil)))) aNil)))))
    (sSeq (sIf (tAnd3 (tE (eOp fEq (eVar 2) (eC (.int 1)))) (tE (eOp fNe (eVar 1) (eLst aNil)))) (sSeq (sSet 5 (eCall fn_law_drawS (aCons (eVar 0) (aCons (eCall fLen (aCons (eVar 1) aNil)) aNil))))
    (sAsg (eCall fn_law_plusS (aCons (eOp fIx (eVar 4) (eVar 5)) (aCons (eCall fn_law_numberS (aCons (eVar 0) aNil)) aNil))) (gS (eVar 4) (eVar 5)))) sNext)
    (sRet (eCall fn_law_shortS (aCons (eVar 1) (aCons (eVar 4) aNil))))))))
noncomputable def fn_law_witnessS : Fn3 := run3 2 6 d_law_witnessS
noncomputable def d_law_sameS : S3 :=
    (sRet (eAnd (eCall fIsi (aCons (eVar 0) (aCons (eC (.val (.ty "bool"))) aNil))) (eOp fEq (eVar 0) (eVar 1))))
noncomputable def fn_law_sameS : Fn3 := run3 2 2 d_law_sameS
noncomputable def d_law : S3 :=
    (sSeq (sFor (iR1 (aCons (eCall fMax2 (aCons (eC (.int 1)) (aCons (eCall fMin2 (aCons (eC (.int 4)) (aCons (eCall fLen (aCons (eVar 0) aNil)) aNil))) aNil))) aNil)) (gN 1) (sSeq (sSet 2 (eCall fn_law_potS (aCons (eVar 0) (aCons (eVar 1) aNil))))
    (sSeq (sSet 3 (eCall fn_law_polyS (aCons (eVar 2) (aCons (eCall fn_law_degreeS (aCons (eVar 2) aNil)) aNil))))
    (sSeq (sSet 4 (eLc (iLT (eCall fn_law_xsS (aCons (eVar 2) (aCons (eCall fn_law_drawS (aCons (eVar 2) (aCons (eC (.int 13)) aNil))) aNil)))) (gN 5) tTrue (eCall fn_law_spotS (aCons (eVar 2) (aCons (eVar 5) (aCons (eVar 3) aNil)))) [5]))
    (sSeq (sSet 6 (eLc (iLT (eVar 4)) (gN 7) tTrue (eOp fSub (eCall fn_law_drawS (aCons (eVar 2) (aCons (eC (.int 3)) aNil))) (eC (.int 1))) [7]))
    (sSeq (sSet 8 (eCall fn_law_witnessS (aCons (eVar 2) (aCons (eVar 4) aNil))))
    (sSeq (sSet 9 (eCall fRepr (aCons (eLst (aCons (eVar 4) (aCons (eVar 6) (aCons (eVar 8) aNil)))) aNil)))
    (sSeq (sFor (iR1 (aCons (eC (.int 2)) aNil)) (gN 10) (sSeq (sIf (tNot3 (tE (eCall fn_law_sameS (aCons (eCall fn_keeps_sides (aCons (eVar 4) (aCons (eVar 6) (aCons (eVar 3) aNil)))) (aCons (eCall fn_law_keepsS (aCons (eVar 4) (aCons (eVar 6) (aCons (eVar 3) aNil)))) aNil))))) (sRet (eC (.bl false))) sNext)
    (sSeq (sSet 11 (eLst (aCons (eCall fList (aCons (eVar 4) aNil)) (aCons (eCall fList (aCons (eVar 6) aNil)) (aCons (eCall fList (aCons (eVar 8) aNil)) aNil)))))
    (sSeq (sSet 12 (eCall fn_cost (aCons (eOp fIx (eVar 11) (eC (.int 0))) (aCons (eOp fIx (eVar 11) (eC (.int 1))) (aCons (eOp fIx (eVar 11) (eC (.int 2))) aNil)))))
    (sSeq (sIf (tOr3 (tE (eOp fNe (eVar 12) (eCall fn_law_costS (aCons (eVar 4) (aCons (eVar 6) (aCons (eVar 8) aNil)))))) (tE (eOp fNeS (eCall fRepr (aCons (eVar 11) aNil)) (eVar 9)))) (sRet (eC (.bl false))) sNext)
    (sFor (iR1 (aCons (eC (.int 6)) aNil)) (gN 13) (sIf (tNot3 (tE (eCall fn_law_sameS (aCons (eCall fn_is_witness (aCons (eVar 4) (aCons (eVar 13) (aCons (eVar 8) aNil)))) (aCons (eCall fn_law_is_witnessS (aCons (eVar 4) (aCons (eVar 13) (aCons (eVar 8) aNil)))) aNil))))) (sRet (eC (.bl false))) sNext)))))))
    (sIf (tE (eOp fNeS (eCall fRepr (aCons (eLst (aCons (eVar 4) (aCons (eVar 6) (aCons (eVar 8) aNil)))) aNil)) (eVar 9))) (sRet (eC (.bl false))) sNext)))))))))
    (sRet (eC (.bl true))))
noncomputable def fn_law : Fn3 := run3 1 14 d_law
/-! ## k51: its draws -/
theorem law_spotS {n : Nat} {q : List Rat} {x : Rat} {L : Lh} {Q : D → Lh → Prop} {E : Str → Lh → Prop} (hp : PotAt L n) (sq : SzP 6 q) (ql : q.length ≤ 6) (sx : Sz 8 x)
    (h : ∀ (s : Spo) L', s.x = x → Sz 130 s.y → Sz 6 s.w → 0 < s.w → Grow n L L' → PotAt L' n → Q (spD s) L') : wpR (fn_law_spotS [.loc n, fr x, pol q] L) Q E := by
  have hn := hp.lt
  have z1 := fn_law_worthS_eq (x := x) L sq sx (limS (by omega) (by decide))
  have sv : Sz 113 (ev q x) := (ev_sz sq sx ql).mono (by decide)
  unfold fn_law_spotS d_law_spotS
  refine wp_run rfl ?_
  generalize ev q x = v at *
  simp [-Po.seq_nx, z1]
  rw [Po.seq_nx, wp_sSeq]
  simp [-Po.seq_nx]
  have fin : ∀ (y : Rat) (L1 : Lh), Sz 130 y → Grow n L L1 → PotAt L1 n → wpS (sRet (eTup (aCons (eVar 1) (aCons (eVar 3) (aCons (eCall fn_law_weightS (aCons (eVar 0) aNil)) aNil)))) [some (.loc n), some (fr x), some (pol q), some (fr y)] L1) (Po.fn L Q E) := by
    intro y L1 sy g1 p1
    simp
    refine law_weightS p1 fun w L2 sw w0 g2 p2 => ?_
    have e : D.tup [fr x, fr y, fr w] = spD ⟨x, y, w⟩ := rfl
    simp [e]
    exact wp_truncG (by simp) (g1.trans g2) p2 hn fun L'' g p => h ⟨x, y, w⟩ L'' rfl sy sw w0 g p
  refine law_drawS (m := 2) hp (by decide) (by decide) fun d L1 d0 d1 g1 p1 => ?_
  by_cases c : d = 0
  · simp [-Po.seq_nx, c]
    refine law_numberS p1 fun b L2 sb g2 p2 => ?_
    have z2 := fn_law_plusS_eq L2 (Fit.of sv (by decide)) (Fit.of sb (by decide))
    simp [-Po.seq_nx, z2]
    rw [Po.seq_nx]
    exact fin _ _ ((sv.add sb).mono (by decide)) (g1.trans g2) p2
  · simp [-Po.seq_nx, c]
    rw [Po.seq_nx]
    exact fin _ _ (sv.mono (by decide)) g1 p1
theorem dis_sub {xs : List Rat} {pl : List Nat} (hd : Dis xs) (hn : pl.Nodup) (hb : ∀ k ∈ pl, k < xs.length) : Dis (pl.map (at0 xs)) := fun i j hi hj hij => by
  simp at hi hj
  rw [at0_lt (by simpa using hi), at0_lt (by simpa using hj), List.getElem_map, List.getElem_map]
  refine hd _ _ (hb _ (List.getElem_mem hi)) (hb _ (List.getElem_mem hj)) fun e => hij ?_
  exact (List.getElem_inj hn).mp e
theorem xsO_get {t : List Spo} {k : Nat} (h : k < t.length) : (t[k]).x = at0 (xsO t) k := by rw [at0_lt (by simpa [xsO] using h)]; simp [xsO]
theorem xsO_szP {N : Nat} {t : List Spo} (st : SzT N t) : SzP N (xsO t) := fun p hp => by obtain ⟨s, hs, rfl⟩ := List.mem_map.mp hp; exact (st s hs).1
theorem rngD_map (n : Nat) : rngD 0 n = (List.range n).map fun k => D.int (k : Nat) := List.ext_getElem (by simp) fun i h1 h2 => by simp
theorem law_addedS {n a c W : Nat} {t : List Spo} {ws : List Rat} {L : Lh} {Q : D → Lh → Prop} {E : Str → Lh → Prop} (hp : PotAt L n) (ht : L[a]? = some (.lst (t.map spD))) (hw : L[c]? = some (.lst (ws.map fr))) (han : a ≠ n) (hcn : c ≠ n) (st : SzP 8 (xsO t)) (hd : Dis (xsO t)) (sw : SzP W ws) (hl : t.length = ws.length) (htl : t.length ≤ 12) (hW : W ≤ 10000)
    (h : ∀ ws' m L', ws'.length = ws.length → SzP (W + 3400) ws' → L.length ≤ m → L'[m]? = some (.lst (ws'.map fr)) → Grow n L L' → PotAt L' n → Q (.loc m) L') : wpR (fn_law_addedS [.loc n, .loc a, .loc c] L) Q E := by
  have hn := hp.lt
  have cp : CPow 1 (t.length : Int) := ⟨by omega, by omega, by decide⟩
  have pw : (2 : Int) ^ t.length < 2 ^ 60 ∧ 0 < (2 : Int) ^ t.length := by
    refine ⟨?_, Int.pow_pos (by decide)⟩
    have : (2 : Nat) ^ t.length < 2 ^ 60 := Nat.pow_lt_pow_right (by decide) (by omega)
    exact_mod_cast this
  unfold fn_law_addedS d_law_addedS
  refine wp_run rfl ?_
  have it := items_loc ht
  simp [-Po.seq_nx, it, cp]
  generalize (2 : Int) ^ t.length = M at *
  refine law_drawS hp pw.2 pw.1 fun d L1 d0 _ g1 p1 => ?_
  have ht1 := g1.keep ht han
  have hw1 := g1.keep hw hcn
  have it1 := items_loc ht1
  simp [-Po.seq_nx]
  rw [Po.seq_nx, wp_sSeq]
  simp [-Po.seq_nx, it1, show t.length ≤ 1000000 by omega]
  rw [rngD_map]
  refine wp_lcFilP (fun k => decide (Builtin.bitAnd (d / 2 ^ k) 1 = 1)) (by simp; omega) (fun _ _ => trivial) (fun k hk L2 pre2 => ?_) (fun L2 h2 pre2 => ?_)
  · simp [Pre.refl]
  · generalize hpl : (List.range t.length).filter (fun k => decide (Builtin.bitAnd (d / 2 ^ k) 1 = 1)) = pl at *
    have pnd : pl.Nodup := hpl ▸ List.nodup_range.filter _
    have pb : ∀ k ∈ pl, k < t.length := fun k hk => by rw [← hpl] at hk; exact List.mem_range.mp (List.mem_filter.mp hk).1
    have pll : pl.length ≤ 12 := by
      rw [← hpl]; have := List.length_filter_le (fun k => decide (Builtin.bitAnd (d / 2 ^ k) 1 = 1)) (List.range t.length); simp at this; omega
    have g2 := g1.trans pre2.grow
    have p2 := pre2.pot p1
    have ht2 := pre2.get ht1
    have hw2 := pre2.get hw1
    have hmn : L1.length ≠ n := by have := p1.lt; omega
    have hml := g1.le
    generalize L1.length = mp at *
    simp [-Po.seq_nx]
    rw [Po.seq_nx, wp_sSeq]
    simp [-Po.seq_nx]
    refine law_numberS p2 fun b L3 sb g3 p3 => ?_
    have ht3 := g3.keep ht2 han
    have hw3 := g3.keep hw2 hcn
    have h3 := g3.keep h2 hmn
    have ic3 := items_loc hw3
    have i3 := items_loc h3
    simp [-Po.seq_nx]
    rw [Po.seq_nx, wp_sSeq]
    simp [-Po.seq_nx, ic3, hw3]
    have g4 := (g2.trans g3).trans (Grow.app (n := n) (X := [.lst (ws.map fr)]))
    have p4 := p3.app (X := [.lst (ws.map fr)])
    have ht4 := get_app (X := [.lst (ws.map fr)]) ht3
    have h4 := get_app (X := [.lst (ws.map fr)]) h3
    have w4 := get_last (L := L3) (c := .lst (ws.map fr))
    have hfn : L3.length ≠ n := by have := p3.lt; omega
    have hfp : L3.length ≠ mp := by have := lt_of_get h3; omega
    have hfl := (g2.trans g3).le
    have hfa : L3.length ≠ a := by have := lt_of_get ht3; omega
    generalize L3 ++ [Cell.lst (ws.map fr)] = L4 at *
    generalize L3.length = mf at *
    have i4 := items_loc h4
    rw [Po.seq_nx, wp_sSeq]
    have fin : ∀ (ws' : List Rat) (v5 v8 : Option D) (L' : Lh), ws'.length = ws.length → SzP (W + 3400) ws' → L'[mf]? = some (.lst (ws'.map fr)) → Grow n L L' → PotAt L' n → wpS (sRet (eVar 7) [some (.loc n), some (.loc a), some (.loc c), some (.int d), some (.loc mp), v5, some (fr b), some (.loc mf), v8] L') (Po.fn L Q E) := by
      intro ws' v5 v8 L' l' s' h' g' p'
      simp
      exact wp_truncGL hfl h' (closeds_frs _ _) g' p' hn fun m' L'' hm' hx' g p => h ws' m' L'' l' s' hm' hx' g p
    simp [-Po.seq_nx, i4]
    by_cases c1 : 1 < (pl.length : Int)
    · have ext : (List.range (pl.map fun k => D.int (k : Nat)).length).map (fun i => fr (at0 (pl.map (at0 (xsO t))) i)) = (pl.map (at0 (xsO t))).map fr := List.ext_getElem (by simp) fun i h1 h2 => by
        have hi : i < pl.length := by simpa using h1
        simp [at0_lt (show i < (pl.map (at0 (xsO t))).length by simpa using hi)]
      simp [-Po.seq_nx, c1, ltR_loc h4]
      refine wp_lcMap (fun i => fr (at0 (pl.map (at0 (xsO t))) i)) (by simp; omega) (fun _ => get_app h4) (fun i hi acc => ?_) ?_
      · have hi' : i < pl.length := by simpa using hi
        have hk := pb _ (List.getElem_mem hi')
        have ta := get_app (X := [.lst acc]) ht4
        have f1 : fIx (.loc a) (.int (pl[i] : Nat)) (L4 ++ [.lst acc]) = .val (spD (t[pl[i]]'hk)) (L4 ++ [.lst acc]) := fIx_listS (by rw [itemsT_loc]; exact items_loc ta) (by rw [atI_some (by simpa using hk)]; simp)
        have ex := xsO_get hk
        have ey : at0 (pl.map (at0 (xsO t))) i = at0 (xsO t) pl[i] := by rw [at0_lt (by simpa using hi'), List.getElem_map]
        simp [f1, ex, ey]
      · rw [ext]
        have szx : SzP 9 (pl.map (at0 (xsO t))) := fun p hp => by
          obtain ⟨k, _, rfl⟩ := List.mem_map.mp hp
          exact sz_at0 st k
        have dx : Dis (pl.map (at0 (xsO t))) := dis_sub hd pnd fun k hk => by have := pb k hk; simpa [xsO] using this
        have h5 := get_last (L := L4) (c := .lst ((pl.map (at0 (xsO t))).map fr))
        have pr5 : Pre L4 (L4 ++ [Cell.lst ((pl.map (at0 (xsO t))).map fr)]) := Pre.new
        generalize L4 ++ [Cell.lst ((pl.map (at0 (xsO t))).map fr)] = L5 at *
        have z := fn_law_leversS_eq h5 szx dx (by simp; omega) (by decide)
        have szl := levs_sz szx dx
        have ll : (levs (pl.map (at0 (xsO t)))).length = pl.length := by simp
        generalize levs (pl.map (at0 (xsO t))) = vs at *
        have h6 := get_last (L := L5) (c := .lst (vs.map fr))
        have pr6 := pr5.app (X := [Cell.lst (vs.map fr)])
        simp [-Po.seq_nx, z]
        generalize L5 ++ [Cell.lst (vs.map fr)] = L6 at *
        have hm6 := pr6.get h4
        have w6 := pr6.get w4
        have hne : L5.length ≠ mf := by have := pr5.le; have := lt_of_get w4; omega
        have hnn : L5.length ≠ n := by have := pr5.le; have := p4.lt; omega
        generalize L5.length = mv at *
        rw [zpR_loc hm6 h6]
        simp [-Po.seq_nx]
        refine wp_for (fun k Γ L' => ∃ (ws' : List Rat) (v5 v8 : Option D), Γ = [some (.loc n), some (.loc a), some (.loc c), some (.int d), some (.loc mp), v5, some (fr b), some (.loc mf), v8] ∧ ws'.length = ws.length ∧ SzP (W + k * 280) ws' ∧ L'[mf]? = some (.lst (ws'.map fr)) ∧ L'[mp]? = some (.lst (pl.map fun k => .int (k : Nat))) ∧ L'[mv]? = some (.lst (vs.map fr)) ∧ Grow n L L' ∧ PotAt L' n)
          ⟨ws, _, _, rfl, rfl, sw.mono (by omega), w6, hm6, h6, g4.trans pr6.grow, pr6.pot p4⟩ (fun k Γ L' _ hI => by obtain ⟨_, _, _, _, _, _, _, h1, h2, _⟩ := hI; exact ⟨h1, h2⟩) (fun k hk Γ L' J hJ hI => ?_) (fun Γ L' hI => ?_)
        · obtain ⟨ws', v5, v8, rfl, lw, sw', hf', hp', hv', g', p'⟩ := hI
          have hk' : k < pl.length ∧ k < vs.length := by simp at hk; omega
          have hi := pb _ (List.getElem_mem hk'.1)
          have sv := szl _ (List.getElem_mem hk'.2)
          simp only [zipD_get, List.getElem_map]
          generalize pl[k] = i at *
          generalize vs[k] = v at *
          have hiw : i < ws'.length := by omega
          have f1 : fIx (.loc mf) (.int (i : Nat)) L' = .val (fr ws'[i]) L' := fIx_listS (by rw [itemsT_loc]; exact items_loc hf') (by rw [atI_some (by simpa using hiw)]; simp)
          have s1 := sw' _ (List.getElem_mem hiw)
          have bl : (pl.map (at0 (xsO t))).length * (2 * 9 + 3) + 2 ≤ 12 * 21 + 2 := by
            have := Nat.mul_le_mul (show (pl.map (at0 (xsO t))).length ≤ 12 by simpa using pll) (Nat.le_refl 21); omega
          have lim : 20000 ≤ LIM := by decide
          have k12 : k * 280 ≤ 12 * 280 := Nat.mul_le_mul (by omega) (Nat.le_refl _)
          have sv2 : Sz 260 v := sv.mono (by omega)
          have z1 := fn_law_timesS_eq L' (Fit.of sb (by omega)) (Fit.of sv2 (by omega))
          have z2 := fn_law_plusS_eq L' (Fit.of s1 (by omega)) (Fit.of (sb.mul sv2) (by omega))
          simp [f1, z1, z2]
          rw [setR_eq hf' (ixN_nat (by simpa using hiw))]
          simp
          refine hJ _ _ ⟨ws'.set i (ws'[i] + b * v), _, _, rfl, by simp [lw], fun p hp => ?_, ?_, get_set_ne hp' hfp, get_set_ne hv' hne.symm, g'.set hfl, p'.set hfn⟩
          · rcases List.mem_or_eq_of_mem_set hp with hp | rfl
            · exact (sw' p hp).mono (by omega)
            · exact (s1.add (sb.mul sv2)).mono (by omega)
          · have := get_set (d := .lst ((ws'.set i (ws'[i] + b * v)).map fr)) hf'
            simpa using this
        · obtain ⟨ws', v5, v8, rfl, lw, sw', hf', hp', hv', g', p'⟩ := hI
          have bb : (zipD (pl.map fun k => D.int (k : Nat)) (vs.map fr)).length ≤ 12 := by simp; omega
          rw [Po.seq_nx]
          exact fin ws' _ _ L' lw (sw'.mono (by omega)) hf' g' p'
    · simp [-Po.seq_nx, c1]
      rw [Po.seq_nx]
      exact fin ws _ _ L4 rfl (sw.mono (by omega)) w4 g4 p4
theorem sz_40 {q : Rat} (h1 : (if q.num < 0 then -q.num else q.num) < 1000000000000) (h2 : (q.den : Int) < 1000000000000) : Sz 40 q := by
  unfold Sz Bd
  have : (1000000000000 : Nat) < 2 ^ 40 := by decide
  constructor <;> (split at h1 <;> omega)
theorem law_shortS {n a c : Nat} {t : List Spo} {ws : List Rat} {L : Lh} {Q : D → Lh → Prop} {E : Str → Lh → Prop} (hp : PotAt L n) (ht : L[a]? = some (.lst (t.map spD))) (hw : L[c]? = some (.lst (ws.map fr))) (han : a ≠ n) (hcn : c ≠ n) (st : SzP 8 (xsO t)) (hd : Dis (xsO t)) (hl : t.length = ws.length) (htl : t.length ≤ 12)
    (h : ∀ ws' m L', ws'.length = ws.length → SzP 100 ws' → (m = c ∨ L.length ≤ m) → L'[m]? = some (.lst (ws'.map fr)) → Grow n L L' → PotAt L' n → Q (.loc m) L') : wpR (fn_law_shortS [.loc a, .loc c] L) Q E := by
  have hn := hp.lt
  have cl := lt_of_get hw
  have cp : CPow 10 12 := ⟨by decide, by decide, by decide⟩
  unfold fn_law_shortS d_law_shortS
  refine wp_run rfl ?_
  simp [-Po.seq_nx, ltR_loc hw]
  refine wp_lcMap (fun k => .bl (decide ((if (at0 ws k).num < 0 then -(at0 ws k).num else (at0 ws k).num) < 1000000000000) && decide (((at0 ws k).den : Int) < 1000000000000))) (by simp; omega) (fun _ => get_app hw) (fun k hk acc => ?_) ?_
  · have hk' : k < ws.length := by simpa using hk
    simp only [List.getElem_map, ← at0_lt hk']
    generalize at0 ws k = q at *
    simp [cp]
    by_cases u : (if q.num < 0 then -q.num else q.num) < 1000000000000 <;> simp [u, cp]
  · generalize hpd : (fun k => decide ((if (at0 ws k).num < 0 then -(at0 ws k).num else (at0 ws k).num) < 1000000000000) && decide (((at0 ws k).den : Int) < 1000000000000)) = p
    have hpk : ∀ k, p k = true → Sz 40 (at0 ws k) := fun k hk => by
      rw [← hpd] at hk
      simp only [Bool.and_eq_true, decide_eq_true_eq] at hk
      exact sz_40 hk.1 hk.2
    have e : (List.range (ws.map fr).length).map (fun k => D.bl (decide ((if (at0 ws k).num < 0 then -(at0 ws k).num else (at0 ws k).num) < 1000000000000) && decide (((at0 ws k).den : Int) < 1000000000000))) = (List.range ws.length).map fun k => .bl (p k) := by rw [← hpd]; simp
    rw [e]
    have z := fAll_map p (get_last (L := L) (c := .lst ((List.range ws.length).map fun k => .bl (p k))))
    have pre1 : Pre L (L ++ [Cell.lst ((List.range ws.length).map fun k => D.bl (p k))]) := Pre.new
    generalize hB : (List.range ws.length).map (fun k => D.bl (p k)) = B at z pre1 ⊢
    simp [-Po.seq_nx, z, -fAll]
    by_cases c1 : (List.range ws.length).all p = true
    · have s1 : SzP 100 ws := fun q hq => by
        obtain ⟨k, hk, rfl⟩ := List.getElem_of_mem hq
        have := hpk k (List.all_eq_true.mp c1 k (List.mem_range.mpr hk))
        rw [at0_lt hk] at this
        exact this.mono (by decide)
      simp [-Po.seq_nx, c1, -List.all_eq_true]
      exact wp_truncP pre1 (by simp [closed]; exact cl) (h ws c L rfl s1 (.inl rfl) hw (Grow.refl _ _) hp)
    · have t1 := pre1.get ht
      have ec : cutD (t.map spD) none (some 4) = (t.take 4).map spD := by
        have := cut_to (xs := t.map spD) (k := 4)
        rw [List.map_take]; exact this
      generalize L ++ [Cell.lst B] = L1 at *
      simp [-Po.seq_nx, c1, -List.all_eq_true]
      rw [Po.seq_nx, wp_sSeq]
      have tl : (t.take 4).length ≤ 4 := by simp; omega
      have tl2 : (t.take 4).length ≤ t.length := by simp; omega
      have szx : SzP 9 (xsO (t.take 4)) := fun p hp => by
        obtain ⟨s, hs, rfl⟩ := List.mem_map.mp hp
        exact (st _ (List.mem_map.mpr ⟨s, List.mem_of_mem_take hs, rfl⟩)).mono (by decide)
      have dx : Dis (xsO (t.take 4)) := fun i j hi hj hij => by
        simp [xsO] at hi hj
        have := hd i j (by simp [xsO]; omega) (by simp [xsO]; omega) hij
        have e : ∀ k, k < 4 → k < t.length → at0 (xsO (t.take 4)) k = at0 (xsO t) k := fun k h1 h2 => by
          rw [← xsO_get h2, ← xsO_get (show k < (t.take 4).length by simp; omega)]; simp
        rw [e i (by omega) (by omega), e j (by omega) (by omega)]; exact this
      simp [-Po.seq_nx, sliceD_loc t1, ec, -List.map_take]
      have eq1 : L1 ++ [Cell.lst ((t.take 4).map spD), Cell.lst []] = (L1 ++ [Cell.lst ((t.take 4).map spD)]) ++ [Cell.lst []] := by simp
      have eq2 : L1.length + 1 = (L1 ++ [Cell.lst ((t.take 4).map spD)]).length := by simp
      rw [eq1, eq2]
      have h2 := get_last (L := L1) (c := .lst ((t.take 4).map spD))
      have pre2 := pre1.app (X := [.lst ((t.take 4).map spD)])
      generalize L1 ++ [Cell.lst ((t.take 4).map spD)] = L2 at *
      generalize t.take 4 = tt at *
      have t2 := pre2.get ht
      refine wp_lcMap (fun i => fr (at0 (xsO tt) i)) (by simp; omega) (fun _ => get_app h2) (fun i hi acc => ?_) ?_
      · have hi' : i < tt.length := by simpa using hi
        have ex := xsO_get hi'
        simp only [List.getElem_map]
        simp [ex]
      · have ext : (List.range (tt.map spD).length).map (fun i => fr (at0 (xsO tt) i)) = (xsO tt).map fr := List.ext_getElem (by simp [xsO]) fun i h1 h2 => by
          have hi : i < tt.length := by simpa using h1
          simp [at0_lt (show i < (xsO tt).length by simpa [xsO] using hi)]
        rw [ext]
        have h3 := get_last (L := L2) (c := .lst ((xsO tt).map fr))
        have pre3 := pre2.app (X := [.lst ((xsO tt).map fr)])
        generalize L2 ++ [Cell.lst ((xsO tt).map fr)] = L3 at *
        generalize L2.length = mx at *
        have t3 := pre3.get ht
        have xl : (xsO tt).length = tt.length := by simp [xsO]
        have z3 := fn_law_leversS_eq h3 szx dx (by omega) (by decide)
        have szl := levs_sz szx dx
        have ll : (levs (xsO tt)).length = tt.length := by simp [xsO]
        rw [xl] at szl
        have szl2 : SzP 100 (levs (xsO tt)) := fun p hp => (szl p hp).mono (by have := Nat.mul_le_mul tl (Nat.le_refl 21); omega)
        generalize levs (xsO tt) = vs at *
        have h4 := get_last (L := L3) (c := .lst (vs.map fr))
        have pre4 := pre3.app (X := [.lst (vs.map fr)])
        simp [-Po.seq_nx]
        rw [Po.seq_nx]
        have e0 : D.tup [.int 0, .int 1] = fr 0 := rfl
        have t4 := pre4.get ht
        simp [-Po.seq_nx, z3, e0]
        have h5 : (L3 ++ [Cell.lst (vs.map fr), Cell.lst [fr 0]])[L3.length]? = some (.lst (vs.map fr)) := by simp
        have o5 : (L3 ++ [Cell.lst (vs.map fr), Cell.lst [fr 0]])[L3.length + 1]? = some (.lst [fr 0]) := by simp
        have pre5 := pre3.app (X := [Cell.lst (vs.map fr), Cell.lst [fr 0]])
        have t5 := pre5.get ht
        have x5 := get_app (X := [Cell.lst (vs.map fr), Cell.lst [fr 0]]) h3
        have le5 := pre3.le
        generalize L3 ++ [Cell.lst (vs.map fr), Cell.lst [fr 0]] = L5 at *
        have it5 := items_loc t5
        have ix5 := items_loc x5
        have ek : (t.length : Int) - (tt.length : Int) = ((t.length - tt.length : Nat) : Int) := by omega
        have mm := fMul_lst (k := t.length - tt.length) o5 (by omega) (by simp; omega)
        have er : (List.replicate (t.length - tt.length) [fr 0]).flatten = (List.replicate (t.length - tt.length) (0 : Rat)).map fr := by
          rw [flat_rep]
        rw [er] at mm
        simp [it5, ix5, xl, ek, mm, -List.map_replicate]
        have h6 := get_app (X := [Cell.lst ((List.replicate (t.length - tt.length) (0 : Rat)).map fr)]) h5
        have r6 := get_last (L := L5) (c := Cell.lst ((List.replicate (t.length - tt.length) (0 : Rat)).map fr))
        have pre6 := pre5.app (X := [Cell.lst ((List.replicate (t.length - tt.length) (0 : Rat)).map fr)])
        generalize L5 ++ [Cell.lst ((List.replicate (t.length - tt.length) (0 : Rat)).map fr)] = L6 at *
        rw [fAdd_lst h6 r6 (by simp; omega)]
        have ej : vs.map fr ++ (List.replicate (t.length - tt.length) (0 : Rat)).map fr = (vs ++ List.replicate (t.length - tt.length) 0).map fr := by simp
        rw [ej]
        have lz : (vs ++ List.replicate (t.length - tt.length) (0 : Rat)).length = ws.length := by simp; omega
        have sz : SzP 100 (vs ++ List.replicate (t.length - tt.length) (0 : Rat)) := fun q hq => by
          rcases List.mem_append.mp hq with hq | hq
          · exact szl2 q hq
          · rw [(List.mem_replicate.mp hq).2]; exact sz0.mono (by decide)
        generalize vs ++ List.replicate (t.length - tt.length) (0 : Rat) = wz at *
        have f7 := get_last (L := L6) (c := .lst (wz.map fr))
        have pre7 := pre6.app (X := [.lst (wz.map fr)])
        have le6 := pre6.le
        simp
        exact wp_truncPL pre7 le6 f7 (closeds_frs _ _) (h wz L.length _ lz sz (.inr (Nat.le_refl _)) get_last Grow.app hp.app)
theorem law_witnessS {n a : Nat} {t : List Spo} {L : Lh} {Q : D → Lh → Prop} {E : Str → Lh → Prop} (hp : PotAt L n) (ht : L[a]? = some (.lst (t.map spD))) (han : a ≠ n) (st : SzP 8 (xsO t)) (hd : Dis (xsO t)) (htl : t.length ≤ 12)
    (h : ∀ ws m L', ws.length = t.length → SzP 100 ws → m ≠ n → L'[m]? = some (.lst (ws.map fr)) → Grow n L L' → PotAt L' n → Q (.loc m) L') : wpR (fn_law_witnessS [.loc n, .loc a] L) Q E := by
  have hn := hp.lt
  unfold fn_law_witnessS d_law_witnessS
  refine wp_run rfl ?_
  simp [-Po.seq_nx]
  refine law_drawS (m := 4) hp (by decide) (by decide) fun d L1 d0 d1 g1 p1 => ?_
  have t1 := g1.keep ht han
  simp [-Po.seq_nx]
  rw [Po.seq_nx, wp_sSeq]
  have le1 := g1.le
  have hmn : L1.length ≠ n := by have := p1.lt; omega
  refine wp_if (fun z => ?_) (fun z => ?_)
  · simp [ltR_loc t1]
    refine wp_lcDraw (P := fun _ y => ∃ q, y = fr q ∧ Sz 6 q) p1 (by simp; omega) (fun _ g => g.keep t1 han) (fun k hk ys L2 hy1 hy2 hl2 hL2 g2 p2 => ?_) (fun ys L2 hy1 hy2 hL2 g2 p2 => ?_)
    · simp
      refine law_numberS p2 fun q L3 sq g3 p3 => ?_
      exact ⟨⟨q, rfl, sq⟩, g3, p3⟩
    · obtain ⟨ps, rfl, hs⟩ := frs_of (Q := Sz 6) fun k hk => hy2 k hk
      simp at hy1
      simp
      exact wp_truncGL le1 hL2 (closeds_frs _ _) (g1.trans g2) p2 hn fun m' L'' hm' hx' g p => h ps m' L'' hy1 (fun q hq => (hs q hq).mono (by decide)) (by omega) hx' g p
  · have e0 : D.tup [.int 0, .int 1] = fr 0 := rfl
    have it1 := items_loc t1
    simp [-Po.seq_nx]
    rw [Po.seq_nx, wp_sSeq]
    have o2 := get_last (L := L1) (c := .lst [fr 0])
    have g2 := g1.trans (Grow.app (n := n) (X := [.lst [fr 0]]))
    have p2 := p1.app (X := [.lst [fr 0]])
    have t2 := get_app (X := [Cell.lst [fr 0]]) t1
    simp [-Po.seq_nx, e0]
    generalize L1 ++ [Cell.lst [fr 0]] = L2 at *
    have it2 := items_loc t2
    have mm := fMul_lst (k := t.length) o2 (by omega) (by simp; omega)
    rw [flat_rep] at mm
    simp [-Po.seq_nx, it2, mm, -List.map_replicate]
    have w3 := get_last (L := L2) (c := .lst ((List.replicate t.length (0 : Rat)).map fr))
    have g3 := g2.trans (Grow.app (n := n) (X := [.lst ((List.replicate t.length (0 : Rat)).map fr)]))
    have p3 := p2.app (X := [.lst ((List.replicate t.length (0 : Rat)).map fr)])
    have t3 := get_app (X := [Cell.lst ((List.replicate t.length (0 : Rat)).map fr)]) t2
    have h2n : L2.length ≠ n := by have := p2.lt; omega
    generalize L2 ++ [Cell.lst ((List.replicate t.length (0 : Rat)).map fr)] = L3 at *
    generalize L2.length = mz at *
    have s0 : SzP 1 (List.replicate t.length (0 : Rat)) := fun q hq => by rw [(List.mem_replicate.mp hq).2]; exact sz0.mono (by decide)
    refine law_addedS p3 t3 w3 han h2n st hd s0 (by simp) htl (by decide) fun ws4 m4 L4 l4 s4 le4 w4 g4 p4 => ?_
    have t4 := g4.keep t3 han
    have h4n : m4 ≠ n := by have := p3.lt; omega
    simp at l4
    simp [-Po.seq_nx]
    refine law_addedS p4 t4 w4 han h4n st hd s4 (by omega) htl (by decide) fun ws5 m5 L5 l5 s5 le5 w5 g5 p5 => ?_
    have t5 := g5.keep t4 han
    have h5n : m5 ≠ n := by have := p4.lt; omega
    have g05 := (g3.trans g4).trans g5
    have l5' : ws5.length = t.length := by omega
    have h5l : L.length ≤ m5 := by have := g3.le; have := g4.le; omega
    simp [-Po.seq_nx]
    rw [Po.seq_nx, wp_sSeq]
    have fin : ∀ (ws : List Rat) (v5 : Option D) (L' : Lh), ws.length = t.length → L'[m5]? = some (.lst (ws.map fr)) → Grow n L L' → PotAt L' n → wpS (sRet (eCall fn_law_shortS (aCons (eVar 1) (aCons (eVar 4) aNil))) [some (.loc n), some (.loc a), some (.int d), none, some (.loc m5), v5] L') (Po.fn L Q E) := by
      intro ws v5 L' l' w' g' p'
      have t' := g'.keep ht han
      simp
      refine law_shortS p' t' w' han h5n st hd (by omega) htl fun ws6 m6 L6 l6 s6 h6 w6 g6 p6 => ?_
      have h6l : L.length ≤ m6 := by have := g'.le; omega
      simp
      exact wp_truncGL h6l w6 (closeds_frs _ _) (g'.trans g6) p6 hn fun m' L'' hm' hx' g p => h ws6 m' L'' (by omega) s6 (by omega) hx' g p
    by_cases c : d = 1
    · subst c
      have a1 := (encS.eqL (get_app (X := [Cell.lst []]) t5) (show (L5 ++ [Cell.lst []])[L5.length]? = some (.lst (([] : List Spo).map encS.d)) from get_last)).2
      have t6 := get_app (X := [Cell.lst []]) t5
      have w6 := get_app (X := [Cell.lst []]) w5
      have g6 := g05.trans (Grow.app (n := n) (X := [Cell.lst []]))
      have p6 := p5.app (X := [Cell.lst []])
      generalize hX : L5 ++ [Cell.lst []] = L6 at *
      by_cases ce : t = []
      · simp [-Po.seq_nx, hX, a1, ce]
        rw [Po.seq_nx]
        exact fin ws5 _ L6 l5' w6 g6 p6
      · have l0 : 0 < t.length := List.length_pos_iff.mpr ce
        have it6 := items_loc t6
        simp [-Po.seq_nx, hX, a1, ce, it6]
        refine law_drawS (m := (t.length : Int)) p6 (by omega) (by omega) fun k L7 k0 k1 g7 p7 => ?_
        obtain ⟨k, rfl⟩ := Int.eq_ofNat_of_zero_le k0
        have hk : k < ws5.length := by omega
        have w7 := g7.keep w6 h5n
        have f1 : fIx (.loc m5) (.int (k : Nat)) L7 = .val (fr ws5[k]) L7 := fIx_listS (by rw [itemsT_loc]; exact items_loc w7) (by rw [atI_some (by simpa using hk)]; simp)
        have s1 := s5 _ (List.getElem_mem hk)
        simp [-Po.seq_nx]
        rw [Po.seq_nx]
        simp [-Po.seq_nx, f1]
        refine law_numberS p7 fun b L8 sb g8 p8 => ?_
        have lim : 20000 ≤ LIM := by decide
        have z := fn_law_plusS_eq L8 (Fit.of s1 (by omega)) (Fit.of sb (by omega))
        have w8 := g8.keep w7 h5n
        simp [-Po.seq_nx, z]
        rw [setR_eq w8 (ixN_nat (by simpa using hk))]
        simp [-Po.seq_nx]
        rw [Po.seq_nx]
        refine fin (ws5.set k (ws5[k] + b)) _ _ (by simp [l5']) ?_ (((g6.trans g7).trans g8).set h5l) (p8.set h5n)
        have := get_set (d := .lst ((ws5.set k (ws5[k] + b)).map fr)) w8
        simpa using this
    · simp [-Po.seq_nx, c]
      rw [Po.seq_nx]
      exact fin ws5 _ L5 l5' w5 g05 p5
noncomputable def shC (t : List Spo) (ds : List Int) (ws : List Rat) : Str := PyData.shown (.list [.list (t.map encS.p), .list (ds.map encI.p), .list (ws.map datF)])
theorem fRepr_C {L : Lh} {N r a b c : Nat} {t : List Spo} {ds : List Int} {ws : List Rat} (hr : L[r]? = some (.lst [.loc a, .loc b, .loc c])) (ht : L[a]? = some (.lst (t.map spD))) (hb : L[b]? = some (.lst (ds.map D.int))) (hc : L[c]? = some (.lst (ws.map fr)))
    (hN : 0 < N) (hN2 : N ≤ 1900) (h : SzT N t) (hd : ∀ i ∈ ds, i.natAbs < 2 ^ N) (hw : SzP N ws) (hl : t.length ≤ 20) (hl2 : ds.length ≤ 20) (hl3 : ws.length ≤ 20) : fRepr [.loc r] L = .val (.str (shC t ds ws)) L := by
  have d1 : dat 7 L (.loc a) = some (.list (t.map encS.p)) := encS.datL ht (by decide)
  have d2 : dat 7 L (.loc b) = some (.list (ds.map encI.p)) := encI.datL hb (by decide)
  have d3 : dat 7 L (.loc c) = some (.list (ws.map datF)) := encF.datL hc (by decide)
  have d4 : dat 8 L (.loc r) = some (.list [.list (t.map encS.p), .list (ds.map encI.p), .list (ws.map datF)]) := by
    rw [dat_loc hr, opts_cons d1 (opts_cons d2 (opts_cons d3 rfl))]; rfl
  have f1 := (fine_table hN hN2 h hl).mono (show 10 * 20 ≤ 200 by decide) (show 3 ≤ 3 by decide)
  have f2 : Fine N 200 3 (.list (ds.map encI.p)) := (Fine.list (n := 20) (fun d hd2 => by
    obtain ⟨i, hi, rfl⟩ := List.mem_map.mp hd2
    exact fine_int hN hN2 (hd i hi)) (by simpa using hl2)).mono (by decide) (by decide)
  have f3 : Fine N 200 3 (.list (ws.map datF)) := (Fine.list (n := 20) (fun d hd2 => by
    obtain ⟨q, hq, rfl⟩ := List.mem_map.mp hd2
    exact fine_fr hN hN2 (hw q hq)) (by simpa using hl3)).mono (by decide) (by decide)
  have f4 : Fine N ((200 + 1) * 3) 4 (.list [.list (t.map encS.p), .list (ds.map encI.p), .list (ws.map datF)]) := Fine.list (fun d hd => by
    rcases List.mem_cons.mp hd with rfl | hd
    · exact f1
    · rcases List.mem_cons.mp hd with rfl | hd
      · exact f2
      · rw [List.mem_singleton.mp hd]; exact f3) (Nat.le_refl 3)
  have ok := f4.ok (by have := Nat.mul_le_mul_right ((200 + 1) * 3) (show N + 10 ≤ 1910 by omega); omega) (by decide)
  unfold fRepr
  simp only [d4]
  rw [if_pos ok]; rfl
theorem fn_law_sameS_eq {b : Bool} (L : Lh) : fn_law_sameS [.bl b, .bl b] L = .val (.bl true) L := by
  apply wpR.eq
  unfold fn_law_sameS d_law_sameS
  refine wp_run rfl ?_
  have kl : kitB "bool" "bool" = some true := by decide +kernel
  have il : ∀ X, fIsi [.bl b, .val (.ty "bool")] X = .val (.bl true) X := fun X => by simp [fIsi, tyName, kl]
  have eq : fEq (.bl b) (.bl b) L = .val (.bl true) L := (eqD_of (L := L) (x := .bl b) (y := .bl b) (a := .bool b) (b := .bool b) rfl rfl rfl rfl (by cases b <;> rfl)).1
  simp [il, eq, -fIsi]
theorem ints_of {Q : Int → Prop} {ys : List D} (h : ∀ k (hk : k < ys.length), ∃ i, ys[k] = .int i ∧ Q i) : ∃ is : List Int, ys = is.map D.int ∧ ∀ i ∈ is, Q i := by
  induction ys with
  | nil => exact ⟨[], rfl, fun _ h => nomatch h⟩
  | cons y ys ih =>
    obtain ⟨i, hi, qi⟩ := h 0 (by simp)
    obtain ⟨is, e, q⟩ := ih fun k hk => by have := h (k + 1) (by simp; omega); rwa [List.getElem_cons_succ] at this
    simp at hi
    exact ⟨i :: is, by rw [hi, e]; rfl, fun j hj => by 
      rcases List.mem_cons.mp hj with rfl | hj
      · exact qi
      · exact q j hj⟩
theorem spos_of' {xs : List Rat} {Q : Spo → Prop} {ys : List D} (hl : ys.length = xs.length) (h : ∀ k (hk : k < ys.length), ∃ s : Spo, ys[k] = spD s ∧ s.x = at0 xs k ∧ Q s) : ∃ t : List Spo, ys = t.map spD ∧ xsO t = xs ∧ ∀ s ∈ t, Q s := by
  have hh : ∀ k, ∃ s : Spo, (hk : k < ys.length) → ys[k] = spD s ∧ s.x = at0 xs k ∧ Q s := fun k => by
    by_cases hk : k < ys.length
    · obtain ⟨s, h1⟩ := h k hk
      exact ⟨s, fun _ => h1⟩
    · exact ⟨⟨0, 0, 0⟩, fun h => absurd h hk⟩
  refine ⟨(List.range ys.length).map fun k => (hh k).choose, List.ext_getElem (by simp) fun k h1 h2 => ?_, List.ext_getElem (by simp [xsO, hl]) fun k h1 h2 => ?_, fun s hs => ?_⟩
  · simp
    exact ((hh k).choose_spec h1).1
  · have hk : k < ys.length := by omega
    simp [xsO]
    rw [((hh k).choose_spec hk).2.1, at0_lt h2]
  · obtain ⟨k, hk, rfl⟩ := List.mem_map.mp hs
    exact ((hh k).choose_spec (List.mem_range.mp hk)).2.2
theorem law_degreeS2 {n : Nat} {L : Lh} {Q : D → Lh → Prop} {E : Str → Lh → Prop} (hp : PotAt L n) (h : ∀ (d : Int) L', 0 ≤ d → d ≤ 5 → Grow n L L' → PotAt L' n → Q (.int d) L') : wpR (fn_law_degreeS [.loc n] L) Q E :=
  law_degreeS hp fun d L' hd g p => h d L' (by omega) (by omega) g p
theorem fn_law_eq (ns : List Int) (hns : ns.length ≤ 63) : ∃ L, fn_law [.rol (ns.map D.int)] [] = .val (.bl true) L := by
  unfold fn_law d_law
  refine law_loop (w := 12) (pots_A (J := 4) (by decide) (by decide) rfl) fun i hi v hv L => ?_
  obtain ⟨w2, w3, w4, w5, w6, w7, w8, w9, w10, w11, w12, w13, rfl⟩ := exq12 hv
  simp [-Po.seq_nx]
  refine law_potS (by omega) fun c hp => ?_
  generalize L ++ [c] = L0 at *
  generalize L.length = n at *
  simp [-Po.seq_nx]
  rw [Po.seq_nx, wp_sSeq]
  simp [-Po.seq_nx]
  refine law_degreeS2 hp fun dd L1 hd0 hd1 g1 p1 => ?_
  obtain ⟨d, hd⟩ := Int.eq_ofNat_of_zero_le hd0
  simp [-Po.seq_nx]
  refine law_polyS (i := dd) (many := d + 1) (by omega) (by omega) p1 fun q L2 lq sq _ g2 p2 => ?_
  simp [-Po.seq_nx]
  rw [Po.seq_nx, wp_sSeq]
  simp [-Po.seq_nx]
  refine law_drawS (m := 13) p2 (by decide) (by decide) fun e L3 e0 e1 g3 p3 => ?_
  obtain ⟨e, rfl⟩ := Int.eq_ofNat_of_zero_le e0
  simp [-Po.seq_nx]
  refine law_xsS (many := e) (by omega) p3 fun xs mx L4 lx rx sx hmx h4 g4 p4 => ?_
  have hxn : mx ≠ n := by have := p3.lt; omega
  simp [-Po.seq_nx, ltR_loc h4]
  refine wp_lcDraw (P := fun k y => ∃ s : Spo, y = spD s ∧ s.x = at0 xs k ∧ Sz 130 s.y ∧ Sz 6 s.w ∧ 0 < s.w) p4 (by simp; omega) (fun _ g => g.keep h4 hxn) (fun k hk ys L5 hy1 hy2 hl2 hL2 g5 p5 => ?_) (fun ys L5 hy1 hy2 hL2 g5 p5 => ?_)
  · have hk' : k < xs.length := by simpa using hk
    have sxk := sx _ (List.getElem_mem hk')
    have ek := at0_lt hk'
    simp only [List.getElem_map]
    simp
    refine law_spotS p5 sq (by omega) sxk fun s L6 s1 s2 s3 s4 g6 p6 => ?_
    exact ⟨⟨s, rfl, by rw [s1, ek], s2, s3, s4⟩, g6, p6⟩
  simp at hy1
  obtain ⟨t, rfl, ext, hT⟩ := spos_of' (xs := xs) (Q := fun s => Sz 130 s.y ∧ Sz 6 s.w ∧ 0 < s.w) hy1 fun k hk => by obtain ⟨s, h1, h2, h3⟩ := hy2 k hk; exact ⟨s, h1, h2, h3⟩
  have tl : t.length ≤ 12 := by have : t.length = xs.length := by rw [← ext]; simp [xsO]
                                omega
  have st : SzT 130 t := fun s hs => by
    have h1 : s.x ∈ xs := by rw [← ext]; exact List.mem_map.mpr ⟨s, hs, rfl⟩
    exact ⟨(sx _ h1).mono (by decide), (hT s hs).1, (hT s hs).2.1.mono (by decide)⟩
  have wt : WPos t := fun s hs => (hT s hs).2.2
  have st8 : SzP 8 (xsO t) := by rw [ext]; exact sx
  have dt : Dis (xsO t) := by rw [ext]; exact rx.dis
  have ht5 := hL2
  clear hy2 hL2 hT
  have han : L4.length ≠ n := by have := p4.lt; omega
  generalize L4.length = ta at *
  simp [-Po.seq_nx]
  rw [Po.seq_nx, wp_sSeq]
  simp [-Po.seq_nx, ltR_loc ht5]
  refine wp_lcDraw (P := fun k y => ∃ i : Int, y = .int i ∧ i.natAbs < 2 ^ 130) p5 (by simp; omega) (fun _ g => g.keep ht5 han) (fun k hk ys L6 hz1 hz2 hl2 hL2 g6 p6 => ?_) (fun ys L6 hz1 hz2 hL2 g6 p6 => ?_)
  · simp
    refine law_drawS (m := 3) p6 (by decide) (by decide) fun x L7 x0 x1 g7 p7 => ?_
    simp
    have : (2 : Nat) ^ 130 > 10 := by decide
    exact ⟨by omega, g7, p7⟩
  simp at hz1
  obtain ⟨ds, rfl, hD⟩ := ints_of (Q := fun i => i.natAbs < 2 ^ 130) fun k hk => hz2 k hk
  have ht6 := g6.keep ht5 han
  have hd6 := hL2
  clear hz2 hL2
  have hbn : L5.length ≠ n := by have := p5.lt; omega
  have dl : ds.length = t.length := by simpa using hz1
  generalize L5.length = tb at *
  simp [-Po.seq_nx]
  rw [Po.seq_nx, wp_sSeq]
  simp [-Po.seq_nx]
  refine law_witnessS p6 ht6 han st8 dt tl fun ws tc L7 wl sw hcn hw7 g7 p7 => ?_
  have ht7 := g7.keep ht6 han
  have hd7 := g7.keep hd6 hbn
  simp [-Po.seq_nx]
  rw [Po.seq_nx, wp_sSeq]
  have rep : ∀ {r a b c : Nat} {L : Lh}, L[r]? = some (.lst [.loc a, .loc b, .loc c]) → L[a]? = some (.lst (t.map spD)) → L[b]? = some (.lst (ds.map D.int)) → L[c]? = some (.lst (ws.map fr)) → fRepr [.loc r] L = .val (.str (shC t ds ws)) L := fun hr ha hb hc =>
    fRepr_C hr ha hb hc (N := 130) (by decide) (by decide) st hD (fun q hq => (sw q hq).mono (by decide)) (by omega) (by omega) (by omega)
  simp [-Po.seq_nx]
  have r8 := get_last (L := L7) (c := .lst [.loc ta, .loc tb, .loc tc])
  have ht8 := get_app (X := [.lst [.loc ta, .loc tb, .loc tc]]) ht7
  have hd8 := get_app (X := [.lst [.loc ta, .loc tb, .loc tc]]) hd7
  have hw8 := get_app (X := [.lst [.loc ta, .loc tb, .loc tc]]) hw7
  have z8 := rep r8 ht8 hd8 hw8
  generalize L7 ++ [Cell.lst [.loc ta, .loc tb, .loc tc]] = L8 at *
  generalize shC t ds ws = sh at *
  simp [-Po.seq_nx, z8]
  rw [Po.seq_nx, wp_sSeq]
  simp [-Po.seq_nx]
  refine wp_for (fun k Γ L' => (∃ v10 v11 v12 v13, Γ = [some (.rol (ns.map D.int)), some (.int (i : Nat)), some (.loc n), some (pol q), some (.loc ta), w5, some (.loc tb), w7, some (.loc tc), some (.str sh), v10, v11, v12, v13]) ∧ L'[ta]? = some (.lst (t.map spD)) ∧ L'[tb]? = some (.lst (ds.map D.int)) ∧ L'[tc]? = some (.lst (ws.map fr))) ⟨⟨_, _, _, _, rfl⟩, ht8, hd8, hw8⟩ (fun _ _ _ _ _ => trivial) (fun k hk Γ L9 J hJ hI => ?_) (fun Γ L9 hI => ?_)
  · obtain ⟨⟨v10, v11, v12, v13, rfl⟩, ht9, hd9, hw9⟩ := hI
    have y1 := fn_keeps_sides_eq ht9 hd9 st dl.symm (by omega) sq (by omega) (by decide)
    have y2 := fn_law_keepsS_eq ht9 hd9 st dl.symm (by omega) sq (by omega) (by decide)
    have y3 := fn_law_sameS_eq (b := decide (KSs q t ds)) L9
    simp only [rngD_get]
    simp [-Po.seq_nx, y1, y2, y3]
    rw [Po.seq_nx, wp_sSeq]
    have ia := items_loc ht9
    have ib := items_loc (get_app (X := [Cell.lst (t.map spD)]) hd9)
    have ic := items_loc (get_app (X := [Cell.lst (t.map spD), Cell.lst (ds.map D.int)]) hw9)
    simp [-Po.seq_nx, ia, ib, ic]
    have a10 : (L9 ++ [Cell.lst (t.map spD), Cell.lst (ds.map D.int), Cell.lst (ws.map fr), Cell.lst [.loc L9.length, .loc (L9.length + 1), .loc (L9.length + 2)]])[L9.length]? = some (.lst (t.map spD)) := by simp
    have b10 : (L9 ++ [Cell.lst (t.map spD), Cell.lst (ds.map D.int), Cell.lst (ws.map fr), Cell.lst [.loc L9.length, .loc (L9.length + 1), .loc (L9.length + 2)]])[L9.length + 1]? = some (.lst (ds.map D.int)) := by simp
    have c10 : (L9 ++ [Cell.lst (t.map spD), Cell.lst (ds.map D.int), Cell.lst (ws.map fr), Cell.lst [.loc L9.length, .loc (L9.length + 1), .loc (L9.length + 2)]])[L9.length + 2]? = some (.lst (ws.map fr)) := by simp
    have r10 : (L9 ++ [Cell.lst (t.map spD), Cell.lst (ds.map D.int), Cell.lst (ws.map fr), Cell.lst [.loc L9.length, .loc (L9.length + 1), .loc (L9.length + 2)]])[L9.length + 3]? = some (.lst [.loc L9.length, .loc (L9.length + 1), .loc (L9.length + 2)]) := by simp
    have ht10 := get_app (X := [Cell.lst (t.map spD), Cell.lst (ds.map D.int), Cell.lst (ws.map fr), Cell.lst [.loc L9.length, .loc (L9.length + 1), .loc (L9.length + 2)]]) ht9
    have hd10 := get_app (X := [Cell.lst (t.map spD), Cell.lst (ds.map D.int), Cell.lst (ws.map fr), Cell.lst [.loc L9.length, .loc (L9.length + 1), .loc (L9.length + 2)]]) hd9
    have hw10 := get_app (X := [Cell.lst (t.map spD), Cell.lst (ds.map D.int), Cell.lst (ws.map fr), Cell.lst [.loc L9.length, .loc (L9.length + 1), .loc (L9.length + 2)]]) hw9
    generalize L9 ++ [Cell.lst (t.map spD), Cell.lst (ds.map D.int), Cell.lst (ws.map fr), Cell.lst [.loc L9.length, .loc (L9.length + 1), .loc (L9.length + 2)]] = L10 at *
    generalize L9.length + 3 = mr at *
    generalize L9.length + 2 = mc at *
    generalize L9.length + 1 = mb at *
    generalize L9.length = ma at *
    have f0 : fIx (.loc mr) (.int 0) L10 = .val (.loc ma) L10 := fIx_listS (by rw [itemsT_loc]; exact items_loc r10) (by simp)
    have f1 : fIx (.loc mr) (.int 1) L10 = .val (.loc mb) L10 := fIx_listS (by rw [itemsT_loc]; exact items_loc r10) (by simp)
    have f2 : fIx (.loc mr) (.int 2) L10 = .val (.loc mc) L10 := fIx_listS (by rw [itemsT_loc]; exact items_loc r10) (by simp)
    have y4 := fn_cost_eq a10 b10 c10 st wt sw dl.symm wl.symm (by omega) (by decide)
    have y5 := fn_law_costS_eq ht10 hd10 hw10 st wt sw dl.symm wl.symm (by omega) (by decide)
    have y6 := rep r10 a10 b10 c10
    rw [Po.seq_nx, wp_sSeq]
    simp [-Po.seq_nx, f0, f1, f2, y4, y5, y6]
    rw [Po.seq_nx]
    simp [-Po.seq_nx, f0, f1, f2, y4, y5, y6]
    rw [Po.seq_nx]
    simp [-Po.seq_nx]
    refine wp_for (fun k2 Γ L' => L' = L10 ∧ ∃ v13, Γ = [some (.rol (ns.map D.int)), some (.int (i : Nat)), some (.loc n), some (pol q), some (.loc ta), w5, some (.loc tb), w7, some (.loc tc), some (.str sh), some (.int (k : Nat)), some (.loc mr), some (fr (costR t ds ws)), v13]) ⟨rfl, _, rfl⟩ (fun _ _ _ _ _ => trivial) (fun k2 hk2 Γ L' J2 hJ2 hI => ?_) (fun Γ L' hI => ?_)
    · obtain ⟨rfl, v13, rfl⟩ := hI
      have hk2' : k2 < 6 := by simpa using hk2
      simp only [rngD_get]
      obtain ⟨x, hx⟩ : ∃ x : Int, x = 0 + (k2 : Int) := ⟨_, rfl⟩
      rw [← hx]
      have y7 := fn_is_witness_eq (i := x) (m := k2 + 1) ht10 hw10 st sw wl.symm tl (by decide) (by decide) (by omega) (by omega)
      have y8 := fn_law_is_witnessS_eq (i := x) (m := k2 + 1) ht10 hw10 st sw wl.symm tl (by decide) (by decide) (by omega) (by omega)
      have y9 := fn_law_sameS_eq (b := decide (Wit (xsO t) ws (k2 + 1))) L'
      simp [y7, y8, y9]
      exact hJ2 _ _ ⟨rfl, _, rfl⟩
    · obtain ⟨rfl, v13, rfl⟩ := hI
      exact hJ _ _ ⟨⟨_, _, _, _, rfl⟩, ht10, hd10, hw10⟩
  · obtain ⟨⟨v10, v11, v12, v13, rfl⟩, ht9, hd9, hw9⟩ := hI
    have r10 := get_last (L := L9) (c := .lst [.loc ta, .loc tb, .loc tc])
    have ht10 := get_app (X := [.lst [.loc ta, .loc tb, .loc tc]]) ht9
    have hd10 := get_app (X := [.lst [.loc ta, .loc tb, .loc tc]]) hd9
    have hw10 := get_app (X := [.lst [.loc ta, .loc tb, .loc tc]]) hw9
    have z10 := rep r10 ht10 hd10 hw10
    simp [z10]

section
variable {P : Program} {w : World} {K : PySem.W.Frag} {mg : Str → Option Value} {base : Heap}
theorem sc_divisor : FnScope ["a", "b", "one", "other"] ["a", "b"] (df_divisor).scope := ⟨rfl, rfl, rfl, by decide +kernel, rfl, by decide +kernel, by decide +kernel⟩
theorem w_divisor (F : Free mg) (SR : base.NoSeer) (TR : P.given.tree = none) {f : Addr} {fd : FuncData} (Fd : FunD K (df_divisor).name (df_divisor).qual (df_divisor).params (df_divisor).body (df_divisor).scope ((df_divisor).dvs K) ((df_divisor).kws K) f fd) (hm : mg (df_divisor).name = some (.ref f)) :
    DefAt P w K mg base "divisor" ["a", "b"] 37 fn_divisor f fd := by
  have nd : (["a", "b", "one", "other"] : List Str).Nodup := sc_divisor.nd
  refine def3 (d := df_divisor) (k := 36) (m := 2) (n := 4) (t := d_divisor) Fd rfl hm sc_divisor rfl rfl (fun _ _ _ _ _ _ us hl => match us, hl with | [_, _], _ => rfl) (fun cdv A outer s H Ex W hr tk hp => ?_)
  have sr : Sr (cx3 P w K mg base ["a", "b", "one", "other"] (df_divisor).qual (df_divisor).scope f cdv A outer s H Ex) := ⟨SR, TR, _, _, rfl, rfl, rfl, rfl, rfl⟩
  have hu := hr.units
  have hu1 : (cx3 P w K mg base ["a", "b", "one", "other"] (df_divisor).qual (df_divisor).scope f cdv A outer s H Ex).A.units + 65 < cLine := by have := hr.un; omega
  exact (ss3_cons (s3_par 2 3 rfl (e3_blt call_abs ok_abs F.abs (a3_cons (e3_var 0) a3_nil)) (e3_blt call_abs ok_abs F.abs (a3_cons (e3_var 1) a3_nil)) nd)
    (ss3_cons (s3_while hp (t3_cmp op_gt ok_gt (e3_var 3) e3_int) (ss3_one (s3_par 2 3 rfl (e3_var 3) (e3_op op_modN ok_mod (e3_var 2) (e3_var 3)) nd)))
    (ss3_one (s3_ret (e3_var 2)))))
theorem sc_fraction : FnScope ["a", "b", "by"] ["a", "b"] (df_fraction).scope := ⟨rfl, rfl, rfl, by decide +kernel, rfl, by decide +kernel, by decide +kernel⟩
theorem w_fraction (F : Free mg) (SR : base.NoSeer) (TR : P.given.tree = none) (D_divisor : Def3 P w K mg base "divisor" ["a", "b"] 37 fn_divisor) {f : Addr} {fd : FuncData} (Fd : FunD K (df_fraction).name (df_fraction).qual (df_fraction).params (df_fraction).body (df_fraction).scope ((df_fraction).dvs K) ((df_fraction).kws K) f fd) (hm : mg (df_fraction).name = some (.ref f)) :
    DefAt P w K mg base "fraction" ["a", "b"] 38 fn_fraction f fd := by
  have nd : (["a", "b", "by"] : List Str).Nodup := sc_fraction.nd
  refine def3 (d := df_fraction) (k := 37) (m := 2) (n := 3) (t := d_fraction) Fd rfl hm sc_fraction rfl rfl (fun _ _ _ _ _ _ us hl => match us, hl with | [_, _], _ => rfl) (fun cdv A outer s H Ex W hr tk hp => ?_)
  have sr : Sr (cx3 P w K mg base ["a", "b", "by"] (df_fraction).qual (df_fraction).scope f cdv A outer s H Ex) := ⟨SR, TR, _, _, rfl, rfl, rfl, rfl, rfl⟩
  have hu := hr.units
  have hu1 : (cx3 P w K mg base ["a", "b", "by"] (df_fraction).qual (df_fraction).scope f cdv A outer s H Ex).A.units + 65 < cLine := by have := hr.un; omega
  exact (ss3_cons (s3_set 2 (e3_callD D_divisor hr tk (a3_cons (e3_var 0) (a3_cons (e3_var 1) a3_nil))) nd)
    (ss3_cons (s3_if (t3_cmp op_lt ok_lt (e3_var 1) e3_int) (ss3_one (s3_set 2 (e3_un un_neg ok_neg (e3_var 2)) nd)) ss3_nil)
    (ss3_one (s3_ret (e3_tup (a3_cons (e3_op (op_fdiv4 sr hr) ok_fdiv (e3_var 0) (e3_var 2)) (a3_cons (e3_op (op_fdiv4 sr hr) ok_fdiv (e3_var 1) (e3_var 2)) a3_nil)))))))
theorem sc_plus : FnScope ["one", "other"] ["one", "other"] (df_plus).scope := ⟨rfl, rfl, rfl, by decide +kernel, rfl, by decide +kernel, by decide +kernel⟩
theorem w_plus (F : Free mg) (SR : base.NoSeer) (TR : P.given.tree = none) (D_fraction : Def3 P w K mg base "fraction" ["a", "b"] 38 fn_fraction) {f : Addr} {fd : FuncData} (Fd : FunD K (df_plus).name (df_plus).qual (df_plus).params (df_plus).body (df_plus).scope ((df_plus).dvs K) ((df_plus).kws K) f fd) (hm : mg (df_plus).name = some (.ref f)) :
    DefAt P w K mg base "plus" ["one", "other"] 39 fn_plus f fd := by
  have nd : (["one", "other"] : List Str).Nodup := sc_plus.nd
  refine def3 (d := df_plus) (k := 38) (m := 2) (n := 2) (t := d_plus) Fd rfl hm sc_plus rfl rfl (fun _ _ _ _ _ _ us hl => match us, hl with | [_, _], _ => rfl) (fun cdv A outer s H Ex W hr tk hp => ?_)
  have sr : Sr (cx3 P w K mg base ["one", "other"] (df_plus).qual (df_plus).scope f cdv A outer s H Ex) := ⟨SR, TR, _, _, rfl, rfl, rfl, rfl, rfl⟩
  have hu := hr.units
  have hu1 : (cx3 P w K mg base ["one", "other"] (df_plus).qual (df_plus).scope f cdv A outer s H Ex).A.units + 65 < cLine := by have := hr.un; omega
  exact (ss3_one (s3_ret (e3_callD D_fraction hr tk (a3_cons (e3_op op_add3 ok_add (e3_op op_mul3 ok_mul (e3_ix ix_seq ok_ix (e3_var 0) e3_int) (e3_ix ix_seq ok_ix (e3_var 1) e3_int)) (e3_op op_mul3 ok_mul (e3_ix ix_seq ok_ix (e3_var 1) e3_int) (e3_ix ix_seq ok_ix (e3_var 0) e3_int))) (a3_cons (e3_op op_mul3 ok_mul (e3_ix ix_seq ok_ix (e3_var 0) e3_int) (e3_ix ix_seq ok_ix (e3_var 1) e3_int)) a3_nil)))))
theorem sc_times : FnScope ["one", "other"] ["one", "other"] (df_times).scope := ⟨rfl, rfl, rfl, by decide +kernel, rfl, by decide +kernel, by decide +kernel⟩
theorem w_times (F : Free mg) (SR : base.NoSeer) (TR : P.given.tree = none) (D_fraction : Def3 P w K mg base "fraction" ["a", "b"] 38 fn_fraction) {f : Addr} {fd : FuncData} (Fd : FunD K (df_times).name (df_times).qual (df_times).params (df_times).body (df_times).scope ((df_times).dvs K) ((df_times).kws K) f fd) (hm : mg (df_times).name = some (.ref f)) :
    DefAt P w K mg base "times" ["one", "other"] 39 fn_times f fd := by
  have nd : (["one", "other"] : List Str).Nodup := sc_times.nd
  refine def3 (d := df_times) (k := 38) (m := 2) (n := 2) (t := d_times) Fd rfl hm sc_times rfl rfl (fun _ _ _ _ _ _ us hl => match us, hl with | [_, _], _ => rfl) (fun cdv A outer s H Ex W hr tk hp => ?_)
  have sr : Sr (cx3 P w K mg base ["one", "other"] (df_times).qual (df_times).scope f cdv A outer s H Ex) := ⟨SR, TR, _, _, rfl, rfl, rfl, rfl, rfl⟩
  have hu := hr.units
  have hu1 : (cx3 P w K mg base ["one", "other"] (df_times).qual (df_times).scope f cdv A outer s H Ex).A.units + 65 < cLine := by have := hr.un; omega
  exact (ss3_one (s3_ret (e3_callD D_fraction hr tk (a3_cons (e3_op op_mul3 ok_mul (e3_ix ix_seq ok_ix (e3_var 0) e3_int) (e3_ix ix_seq ok_ix (e3_var 1) e3_int)) (a3_cons (e3_op op_mul3 ok_mul (e3_ix ix_seq ok_ix (e3_var 0) e3_int) (e3_ix ix_seq ok_ix (e3_var 1) e3_int)) a3_nil)))))
theorem sc_over : FnScope ["one", "other"] ["one", "other"] (df_over).scope := ⟨rfl, rfl, rfl, by decide +kernel, rfl, by decide +kernel, by decide +kernel⟩
theorem w_over (F : Free mg) (SR : base.NoSeer) (TR : P.given.tree = none) (D_fraction : Def3 P w K mg base "fraction" ["a", "b"] 38 fn_fraction) {f : Addr} {fd : FuncData} (Fd : FunD K (df_over).name (df_over).qual (df_over).params (df_over).body (df_over).scope ((df_over).dvs K) ((df_over).kws K) f fd) (hm : mg (df_over).name = some (.ref f)) :
    DefAt P w K mg base "over" ["one", "other"] 39 fn_over f fd := by
  have nd : (["one", "other"] : List Str).Nodup := sc_over.nd
  refine def3 (d := df_over) (k := 38) (m := 2) (n := 2) (t := d_over) Fd rfl hm sc_over rfl rfl (fun _ _ _ _ _ _ us hl => match us, hl with | [_, _], _ => rfl) (fun cdv A outer s H Ex W hr tk hp => ?_)
  have sr : Sr (cx3 P w K mg base ["one", "other"] (df_over).qual (df_over).scope f cdv A outer s H Ex) := ⟨SR, TR, _, _, rfl, rfl, rfl, rfl, rfl⟩
  have hu := hr.units
  have hu1 : (cx3 P w K mg base ["one", "other"] (df_over).qual (df_over).scope f cdv A outer s H Ex).A.units + 65 < cLine := by have := hr.un; omega
  exact (ss3_one (s3_ret (e3_callD D_fraction hr tk (a3_cons (e3_op op_mul3 ok_mul (e3_ix ix_seq ok_ix (e3_var 0) e3_int) (e3_ix ix_seq ok_ix (e3_var 1) e3_int)) (a3_cons (e3_op op_mul3 ok_mul (e3_ix ix_seq ok_ix (e3_var 0) e3_int) (e3_ix ix_seq ok_ix (e3_var 1) e3_int)) a3_nil)))))
theorem sc_sign : FnScope ["one"] ["one"] (df_sign).scope := ⟨rfl, rfl, rfl, by decide +kernel, rfl, by decide +kernel, by decide +kernel⟩
theorem w_sign (F : Free mg) (SR : base.NoSeer) (TR : P.given.tree = none) {f : Addr} {fd : FuncData} (Fd : FunD K (df_sign).name (df_sign).qual (df_sign).params (df_sign).body (df_sign).scope ((df_sign).dvs K) ((df_sign).kws K) f fd) (hm : mg (df_sign).name = some (.ref f)) :
    DefAt P w K mg base "sign" ["one"] 37 fn_sign f fd := by
  have nd : (["one"] : List Str).Nodup := sc_sign.nd
  refine def3 (d := df_sign) (k := 36) (m := 1) (n := 1) (t := d_sign) Fd rfl hm sc_sign rfl rfl (fun _ _ _ _ _ _ us hl => match us, hl with | [_], _ => rfl) (fun cdv A outer s H Ex W hr tk hp => ?_)
  have sr : Sr (cx3 P w K mg base ["one"] (df_sign).qual (df_sign).scope f cdv A outer s H Ex) := ⟨SR, TR, _, _, rfl, rfl, rfl, rfl, rfl⟩
  have hu := hr.units
  have hu1 : (cx3 P w K mg base ["one"] (df_sign).qual (df_sign).scope f cdv A outer s H Ex).A.units + 65 < cLine := by have := hr.un; omega
  exact (ss3_one (s3_ret (e3_op op_sub ok_sub (e3_bty call_int1 ok_intOf F.int (a3_cons (e3_cmp op_gt ok_gt (e3_ix ix_seq ok_ix (e3_var 0) e3_int) e3_int) a3_nil)) (e3_bty call_int1 ok_intOf F.int (a3_cons (e3_cmp op_lt ok_lt (e3_ix ix_seq ok_ix (e3_var 0) e3_int) e3_int) a3_nil)))))
theorem sc_is_below : FnScope ["one", "other"] ["one", "other"] (df_is_below).scope := ⟨rfl, rfl, rfl, by decide +kernel, rfl, by decide +kernel, by decide +kernel⟩
theorem w_is_below (F : Free mg) (SR : base.NoSeer) (TR : P.given.tree = none) {f : Addr} {fd : FuncData} (Fd : FunD K (df_is_below).name (df_is_below).qual (df_is_below).params (df_is_below).body (df_is_below).scope ((df_is_below).dvs K) ((df_is_below).kws K) f fd) (hm : mg (df_is_below).name = some (.ref f)) :
    DefAt P w K mg base "is_below" ["one", "other"] 37 fn_is_below f fd := by
  have nd : (["one", "other"] : List Str).Nodup := sc_is_below.nd
  refine def3 (d := df_is_below) (k := 36) (m := 2) (n := 2) (t := d_is_below) Fd rfl hm sc_is_below rfl rfl (fun _ _ _ _ _ _ us hl => match us, hl with | [_, _], _ => rfl) (fun cdv A outer s H Ex W hr tk hp => ?_)
  have sr : Sr (cx3 P w K mg base ["one", "other"] (df_is_below).qual (df_is_below).scope f cdv A outer s H Ex) := ⟨SR, TR, _, _, rfl, rfl, rfl, rfl, rfl⟩
  have hu := hr.units
  have hu1 : (cx3 P w K mg base ["one", "other"] (df_is_below).qual (df_is_below).scope f cdv A outer s H Ex).A.units + 65 < cLine := by have := hr.un; omega
  exact (ss3_one (s3_ret (e3_cmp op_lt ok_lt (e3_op op_mul3 ok_mul (e3_ix ix_seq ok_ix (e3_var 0) e3_int) (e3_ix ix_seq ok_ix (e3_var 1) e3_int)) (e3_op op_mul3 ok_mul (e3_ix ix_seq ok_ix (e3_var 1) e3_int) (e3_ix ix_seq ok_ix (e3_var 0) e3_int)))))
theorem sc_bare : FnScope ["one"] ["one"] (df_bare).scope := ⟨rfl, rfl, rfl, by decide +kernel, rfl, by decide +kernel, by decide +kernel⟩
theorem w_bare (F : Free mg) (SR : base.NoSeer) (TR : P.given.tree = none) {f : Addr} {fd : FuncData} (Fd : FunD K (df_bare).name (df_bare).qual (df_bare).params (df_bare).body (df_bare).scope ((df_bare).dvs K) ((df_bare).kws K) f fd) (hm : mg (df_bare).name = some (.ref f)) :
    DefAt P w K mg base "bare" ["one"] 37 fn_bare f fd := by
  have nd : (["one"] : List Str).Nodup := sc_bare.nd
  refine def3 (d := df_bare) (k := 36) (m := 1) (n := 1) (t := d_bare) Fd rfl hm sc_bare rfl rfl (fun _ _ _ _ _ _ us hl => match us, hl with | [_], _ => rfl) (fun cdv A outer s H Ex W hr tk hp => ?_)
  have sr : Sr (cx3 P w K mg base ["one"] (df_bare).qual (df_bare).scope f cdv A outer s H Ex) := ⟨SR, TR, _, _, rfl, rfl, rfl, rfl, rfl⟩
  have hu := hr.units
  have hu1 : (cx3 P w K mg base ["one"] (df_bare).qual (df_bare).scope f cdv A outer s H Ex).A.units + 65 < cLine := by have := hr.un; omega
  exact (ss3_one (s3_ret (e3_tup (a3_cons (e3_blt call_abs ok_abs F.abs (a3_cons (e3_ix ix_seq ok_ix (e3_var 0) e3_int) a3_nil)) (a3_cons (e3_ix ix_seq ok_ix (e3_var 0) e3_int) a3_nil)))))
theorem sc_added : FnScope ["numbers", "found", "one"] ["numbers"] (df_added).scope := ⟨rfl, rfl, rfl, by decide +kernel, rfl, by decide +kernel, by decide +kernel⟩
theorem w_added (F : Free mg) (SR : base.NoSeer) (TR : P.given.tree = none) (C_NOUGHT_fractions : Cst K mg "NOUGHT_fractions" k_NOUGHT_fractions) (D_plus : Def3 P w K mg base "plus" ["one", "other"] 39 fn_plus) {f : Addr} {fd : FuncData} (Fd : FunD K (df_added).name (df_added).qual (df_added).params (df_added).body (df_added).scope ((df_added).dvs K) ((df_added).kws K) f fd) (hm : mg (df_added).name = some (.ref f)) :
    DefAt P w K mg base "added" ["numbers"] 40 fn_added f fd := by
  have nd : (["numbers", "found", "one"] : List Str).Nodup := sc_added.nd
  refine def3 (d := df_added) (k := 39) (m := 1) (n := 3) (t := d_added) Fd rfl hm sc_added rfl rfl (fun _ _ _ _ _ _ us hl => match us, hl with | [_], _ => rfl) (fun cdv A outer s H Ex W hr tk hp => ?_)
  have sr : Sr (cx3 P w K mg base ["numbers", "found", "one"] (df_added).qual (df_added).scope f cdv A outer s H Ex) := ⟨SR, TR, _, _, rfl, rfl, rfl, rfl, rfl⟩
  have hu := hr.units
  have hu1 : (cx3 P w K mg base ["numbers", "found", "one"] (df_added).qual (df_added).scope f cdv A outer s H Ex).A.units + 65 < cLine := by have := hr.un; omega
  exact (ss3_cons (s3_set 1 (e3_cst C_NOUGHT_fractions) nd)
    (ss3_cons (s3_for hp rfl (i3_lt (e3_var 0)) (g3_name 2 nd) (ss3_one (s3_set 1 (e3_callD D_plus hr tk (a3_cons (e3_var 1) (a3_cons (e3_var 2) a3_nil))) nd)))
    (ss3_one (s3_ret (e3_var 1)))))
theorem sc_worth : FnScope ["poly", "x", "found", "part"] ["poly", "x"] (df_worth).scope := ⟨rfl, rfl, rfl, by decide +kernel, rfl, by decide +kernel, by decide +kernel⟩
theorem w_worth (F : Free mg) (SR : base.NoSeer) (TR : P.given.tree = none) (C_NOUGHT_fractions : Cst K mg "NOUGHT_fractions" k_NOUGHT_fractions) (D_plus : Def3 P w K mg base "plus" ["one", "other"] 39 fn_plus) (D_times : Def3 P w K mg base "times" ["one", "other"] 39 fn_times) {f : Addr} {fd : FuncData} (Fd : FunD K (df_worth).name (df_worth).qual (df_worth).params (df_worth).body (df_worth).scope ((df_worth).dvs K) ((df_worth).kws K) f fd) (hm : mg (df_worth).name = some (.ref f)) :
    DefAt P w K mg base "worth" ["poly", "x"] 40 fn_worth f fd := by
  have nd : (["poly", "x", "found", "part"] : List Str).Nodup := sc_worth.nd
  refine def3 (d := df_worth) (k := 39) (m := 2) (n := 4) (t := d_worth) Fd rfl hm sc_worth rfl rfl (fun _ _ _ _ _ _ us hl => match us, hl with | [_, _], _ => rfl) (fun cdv A outer s H Ex W hr tk hp => ?_)
  have sr : Sr (cx3 P w K mg base ["poly", "x", "found", "part"] (df_worth).qual (df_worth).scope f cdv A outer s H Ex) := ⟨SR, TR, _, _, rfl, rfl, rfl, rfl, rfl⟩
  have hu := hr.units
  have hu1 : (cx3 P w K mg base ["poly", "x", "found", "part"] (df_worth).qual (df_worth).scope f cdv A outer s H Ex).A.units + 65 < cLine := by have := hr.un; omega
  exact (ss3_cons (s3_set 2 (e3_cst C_NOUGHT_fractions) nd)
    (ss3_cons (s3_for hp rfl (i3_rev F.reversed (e3_var 0)) (g3_name 3 nd) (ss3_one (s3_set 2 (e3_callD D_plus hr tk (a3_cons (e3_callD D_times hr tk (a3_cons (e3_var 2) (a3_cons (e3_var 1) a3_nil))) (a3_cons (e3_var 3) a3_nil))) nd)))
    (ss3_one (s3_ret (e3_var 2)))))
theorem sc_keeps_side : FnScope ["spot", "side", "poly", "x", "y", "w", "here"] ["spot", "side", "poly"] (df_keeps_side).scope := ⟨rfl, rfl, rfl, by decide +kernel, rfl, by decide +kernel, by decide +kernel⟩
theorem w_keeps_side (F : Free mg) (SR : base.NoSeer) (TR : P.given.tree = none) (C_NOT_GREATER : Cst K mg "NOT_GREATER" k_NOT_GREATER) (C_NOT_LESS : Cst K mg "NOT_LESS" k_NOT_LESS) (D_is_below : Def3 P w K mg base "is_below" ["one", "other"] 37 fn_is_below) (D_worth : Def3 P w K mg base "worth" ["poly", "x"] 40 fn_worth) {f : Addr} {fd : FuncData} (Fd : FunD K (df_keeps_side).name (df_keeps_side).qual (df_keeps_side).params (df_keeps_side).body (df_keeps_side).scope ((df_keeps_side).dvs K) ((df_keeps_side).kws K) f fd) (hm : mg (df_keeps_side).name = some (.ref f)) :
    DefAt P w K mg base "keeps_side" ["spot", "side", "poly"] 41 fn_keeps_side f fd := by
  have nd : (["spot", "side", "poly", "x", "y", "w", "here"] : List Str).Nodup := sc_keeps_side.nd
  refine def3 (d := df_keeps_side) (k := 40) (m := 3) (n := 7) (t := d_keeps_side) Fd rfl hm sc_keeps_side rfl rfl (fun _ _ _ _ _ _ us hl => match us, hl with | [_, _, _], _ => rfl) (fun cdv A outer s H Ex W hr tk hp => ?_)
  have sr : Sr (cx3 P w K mg base ["spot", "side", "poly", "x", "y", "w", "here"] (df_keeps_side).qual (df_keeps_side).scope f cdv A outer s H Ex) := ⟨SR, TR, _, _, rfl, rfl, rfl, rfl, rfl⟩
  have hu := hr.units
  have hu1 : (cx3 P w K mg base ["spot", "side", "poly", "x", "y", "w", "here"] (df_keeps_side).qual (df_keeps_side).scope f cdv A outer s H Ex).A.units + 65 < cLine := by have := hr.un; omega
  exact (ss3_cons (s3_asg (e3_var 0) (g3_tup rfl (gs3_cons (g3_name 3 nd) (gs3_cons (g3_name 4 nd) (gs3_cons (g3_name 5 nd) gs3_nil)))))
    (ss3_cons (s3_set 6 (e3_callD D_worth hr tk (a3_cons (e3_var 2) (a3_cons (e3_var 3) a3_nil))) nd)
    (ss3_cons (s3_if (t3_cmp (op_eqD hu) ok_eq (e3_var 1) (e3_cst C_NOT_LESS)) (ss3_one (s3_ret (e3_not (e3_callD D_is_below hr tk (a3_cons (e3_var 6) (a3_cons (e3_var 4) a3_nil)))))) ss3_nil)
    (ss3_one (s3_ret (e3_or (e3_cmp (op_neD hu) ok_ne (e3_var 1) (e3_cst C_NOT_GREATER)) (e3_one (e3_not (e3_callD D_is_below hr tk (a3_cons (e3_var 4) (a3_cons (e3_var 6) a3_nil)))))))))))
theorem sc_keeps_sides : FnScope ["table", "sides", "poly", "spot", "side"] ["table", "sides", "poly"] (df_keeps_sides).scope := ⟨rfl, rfl, rfl, by decide +kernel, rfl, by decide +kernel, by decide +kernel⟩
theorem w_keeps_sides (F : Free mg) (SR : base.NoSeer) (TR : P.given.tree = none) (D_keeps_side : Def3 P w K mg base "keeps_side" ["spot", "side", "poly"] 41 fn_keeps_side) {f : Addr} {fd : FuncData} (Fd : FunD K (df_keeps_sides).name (df_keeps_sides).qual (df_keeps_sides).params (df_keeps_sides).body (df_keeps_sides).scope ((df_keeps_sides).dvs K) ((df_keeps_sides).kws K) f fd) (hm : mg (df_keeps_sides).name = some (.ref f)) :
    DefAt P w K mg base "keeps_sides" ["table", "sides", "poly"] 42 fn_keeps_sides f fd := by
  have nd : (["table", "sides", "poly", "spot", "side"] : List Str).Nodup := sc_keeps_sides.nd
  refine def3 (d := df_keeps_sides) (k := 41) (m := 3) (n := 5) (t := d_keeps_sides) Fd rfl hm sc_keeps_sides rfl rfl (fun _ _ _ _ _ _ us hl => match us, hl with | [_, _, _], _ => rfl) (fun cdv A outer s H Ex W hr tk hp => ?_)
  have sr : Sr (cx3 P w K mg base ["table", "sides", "poly", "spot", "side"] (df_keeps_sides).qual (df_keeps_sides).scope f cdv A outer s H Ex) := ⟨SR, TR, _, _, rfl, rfl, rfl, rfl, rfl⟩
  have hu := hr.units
  have hu1 : (cx3 P w K mg base ["table", "sides", "poly", "spot", "side"] (df_keeps_sides).qual (df_keeps_sides).scope f cdv A outer s H Ex).A.units + 65 < cLine := by have := hr.un; omega
  exact (ss3_one (s3_ret (e3_blt (cr_all rfl) ok_all F.all (a3_cons (e3_lc (own := [("spot", 3), ("side", 4)]) rfl nd (i3_zip F.zip (e3_var 0) (e3_var 1)) (by kernel_rfl) (fun _ _ _ _ _ => (g3_tup rfl (gs3_cons (g3_name 3 nd) (gs3_cons (g3_name 4 nd) gs3_nil)))) (fun _ _ _ _ _ => ts3_nil) (fun _ _ _ _ _ => (e3_callD D_keeps_side hr takes0 (a3_cons (e3_var 3) (a3_cons (e3_var 4) (a3_cons (e3_var 2) a3_nil)))))) a3_nil))))
theorem sc_cost : FnScope ["table", "sides", "witness", "found", "x", "y", "w", "side", "number"] ["table", "sides", "witness"] (df_cost).scope := ⟨rfl, rfl, rfl, by decide +kernel, rfl, by decide +kernel, by decide +kernel⟩
theorem w_cost (F : Free mg) (SR : base.NoSeer) (TR : P.given.tree = none) (C_NOUGHT_sides : Cst K mg "NOUGHT_sides" k_NOUGHT_sides) (D_plus : Def3 P w K mg base "plus" ["one", "other"] 39 fn_plus) (D_over : Def3 P w K mg base "over" ["one", "other"] 39 fn_over) (D_sign : Def3 P w K mg base "sign" ["one"] 37 fn_sign) (D_bare : Def3 P w K mg base "bare" ["one"] 37 fn_bare) {f : Addr} {fd : FuncData} (Fd : FunD K (df_cost).name (df_cost).qual (df_cost).params (df_cost).body (df_cost).scope ((df_cost).dvs K) ((df_cost).kws K) f fd) (hm : mg (df_cost).name = some (.ref f)) :
    DefAt P w K mg base "cost" ["table", "sides", "witness"] 40 fn_cost f fd := by
  have nd : (["table", "sides", "witness", "found", "x", "y", "w", "side", "number"] : List Str).Nodup := sc_cost.nd
  refine def3 (d := df_cost) (k := 39) (m := 3) (n := 9) (t := d_cost) Fd rfl hm sc_cost rfl rfl (fun _ _ _ _ _ _ us hl => match us, hl with | [_, _, _], _ => rfl) (fun cdv A outer s H Ex W hr tk hp => ?_)
  have sr : Sr (cx3 P w K mg base ["table", "sides", "witness", "found", "x", "y", "w", "side", "number"] (df_cost).qual (df_cost).scope f cdv A outer s H Ex) := ⟨SR, TR, _, _, rfl, rfl, rfl, rfl, rfl⟩
  have hu := hr.units
  have hu1 : (cx3 P w K mg base ["table", "sides", "witness", "found", "x", "y", "w", "side", "number"] (df_cost).qual (df_cost).scope f cdv A outer s H Ex).A.units + 65 < cLine := by have := hr.un; omega
  exact (ss3_cons (s3_set 3 (e3_cst C_NOUGHT_sides) nd)
    (ss3_cons (s3_for hp rfl (i3_zip3 F.zip (e3_var 0) (e3_var 1) (e3_var 2)) (g3_tup rfl (gs3_cons (g3_tup rfl (gs3_cons (g3_name 4 nd) (gs3_cons (g3_name 5 nd) (gs3_cons (g3_name 6 nd) gs3_nil)))) (gs3_cons (g3_name 7 nd) (gs3_cons (g3_name 8 nd) gs3_nil)))) (ss3_one (s3_if (t3_w (w3_and (t3_cmp (op_neD hu) ok_ne (e3_callD D_sign hr tk (a3_cons (e3_var 8) a3_nil)) e3_int) (w3_and1 (t3_cmp (op_neD hu) ok_ne (e3_callD D_sign hr tk (a3_cons (e3_var 8) a3_nil)) (e3_var 7))))) (ss3_one (s3_set 3 (e3_callD D_plus hr tk (a3_cons (e3_var 3) (a3_cons (e3_callD D_over hr tk (a3_cons (e3_callD D_bare hr tk (a3_cons (e3_var 8) a3_nil)) (a3_cons (e3_var 6) a3_nil))) a3_nil))) nd)) ss3_nil)))
    (ss3_one (s3_ret (e3_var 3)))))
theorem sc_is_witness : FnScope ["table", "n", "witness", "some", "k", "x", "y", "w", "number"] ["table", "n", "witness"] (df_is_witness).scope := ⟨rfl, rfl, rfl, by decide +kernel, rfl, by decide +kernel, by decide +kernel⟩
theorem w_is_witness (F : Free mg) (SR : base.NoSeer) (TR : P.given.tree = none) (C_NOUGHT_sides : Cst K mg "NOUGHT_sides" k_NOUGHT_sides) (D_times : Def3 P w K mg base "times" ["one", "other"] 39 fn_times) (D_added : Def3 P w K mg base "added" ["numbers"] 40 fn_added) {f : Addr} {fd : FuncData} (Fd : FunD K (df_is_witness).name (df_is_witness).qual (df_is_witness).params (df_is_witness).body (df_is_witness).scope ((df_is_witness).dvs K) ((df_is_witness).kws K) f fd) (hm : mg (df_is_witness).name = some (.ref f)) :
    DefAt P w K mg base "is_witness" ["table", "n", "witness"] 41 fn_is_witness f fd := by
  have nd : (["table", "n", "witness", "some", "k", "x", "y", "w", "number"] : List Str).Nodup := sc_is_witness.nd
  refine def3 (d := df_is_witness) (k := 40) (m := 3) (n := 9) (t := d_is_witness) Fd rfl hm sc_is_witness rfl rfl (fun _ _ _ _ _ _ us hl => match us, hl with | [_, _, _], _ => rfl) (fun cdv A outer s H Ex W hr tk hp => ?_)
  have sr : Sr (cx3 P w K mg base ["table", "n", "witness", "some", "k", "x", "y", "w", "number"] (df_is_witness).qual (df_is_witness).scope f cdv A outer s H Ex) := ⟨SR, TR, _, _, rfl, rfl, rfl, rfl, rfl⟩
  have hu := hr.units
  have hu1 : (cx3 P w K mg base ["table", "n", "witness", "some", "k", "x", "y", "w", "number"] (df_is_witness).qual (df_is_witness).scope f cdv A outer s H Ex).A.units + 65 < cLine := by have := hr.un; omega
  exact (ss3_cons (s3_set 3 (e3_bty call_list_of ok_list F.list (a3_cons (e3_var 2) a3_nil)) nd)
    (ss3_cons (s3_for hp rfl (i3_range1 F.range (a3_cons (e3_op op_add3 ok_add (e3_var 1) e3_int) a3_nil)) (g3_name 4 nd) (ss3_cons (s3_if (t3_cmp (op_neD hu) ok_ne (e3_callD D_added hr tk (a3_cons (e3_var 3) a3_nil)) (e3_cst C_NOUGHT_sides)) (ss3_one (s3_ret e3_bl)) ss3_nil)
    (ss3_one (s3_setLc 3 (own := [("number", 8), ("x", 5), ("y", 6), ("w", 7)]) rfl nd (i3_zip F.zip (e3_var 0) (e3_var 3)) (by kernel_rfl) (fun _ _ _ _ _ => (g3_tup rfl (gs3_cons (g3_tup rfl (gs3_cons (g3_name 5 nd) (gs3_cons (g3_name 6 nd) (gs3_cons (g3_name 7 nd) gs3_nil)))) (gs3_cons (g3_name 8 nd) gs3_nil)))) (fun _ _ _ _ _ => ts3_nil) (fun _ _ _ _ _ => (e3_callD D_times hr takes0 (a3_cons (e3_var 8) (a3_cons (e3_var 5) a3_nil))))))))
    (ss3_one (s3_ret e3_bl))))
theorem sc_law_potS : FnScope ["_law_script", "_law_k", "_law_cell"] ["_law_script", "_law_k"] (df_law_potS).scope := ⟨rfl, rfl, rfl, by decide +kernel, rfl, by decide +kernel, by decide +kernel⟩
theorem w_law_potS (F : Free mg) (SR : base.NoSeer) (TR : P.given.tree = none) {f : Addr} {fd : FuncData} (Fd : FunD K (df_law_potS).name (df_law_potS).qual (df_law_potS).params (df_law_potS).body (df_law_potS).scope ((df_law_potS).dvs K) ((df_law_potS).kws K) f fd) (hm : mg (df_law_potS).name = some (.ref f)) :
    DefAt P w K mg base "_law_pot" ["_law_script", "_law_k"] 37 fn_law_potS f fd := by
  have nd : (["_law_script", "_law_k", "_law_cell"] : List Str).Nodup := sc_law_potS.nd
  refine def3 (d := df_law_potS) (k := 36) (m := 2) (n := 3) (t := d_law_potS) Fd rfl hm sc_law_potS rfl rfl (fun _ _ _ _ _ _ us hl => match us, hl with | [_, _], _ => rfl) (fun cdv A outer s H Ex W hr tk hp => ?_)
  have sr : Sr (cx3 P w K mg base ["_law_script", "_law_k", "_law_cell"] (df_law_potS).qual (df_law_potS).scope f cdv A outer s H Ex) := ⟨SR, TR, _, _, rfl, rfl, rfl, rfl, rfl⟩
  have hu := hr.units
  have hu1 : (cx3 P w K mg base ["_law_script", "_law_k", "_law_cell"] (df_law_potS).qual (df_law_potS).scope f cdv A outer s H Ex).A.units + 65 < cLine := by have := hr.un; omega
  exact (ss3_cons (s3_set 2 (e3_if (t3_cmp op_lt ok_lt (e3_var 1) (e3_blt call_len_seq ok_len F.len (a3_cons (e3_var 0) a3_nil))) (e3_ix ix_seq ok_ix (e3_var 0) (e3_var 1)) e3_int) nd)
    (ss3_one (s3_ret (e3_lst (a3_cons (e3_blt (call_max2 rfl) ok_max2 F.max (a3_cons e3_int (a3_cons (e3_op op_sub ok_sub (e3_blt call_abs ok_abs F.abs (a3_cons (e3_var 2) a3_nil)) (e3_op op_pow ok_pow e3_int e3_int)) a3_nil))) (a3_cons (e3_op op_add3 ok_add (e3_op op_add3 ok_add (e3_op op_modN ok_mod (e3_blt call_abs ok_abs F.abs (a3_cons (e3_var 2) a3_nil)) e3_int) (e3_op op_mul3 ok_mul e3_int (e3_var 1))) e3_int) a3_nil))))))
theorem sc_law_drawS : FnScope ["_law_pot_here", "_law_many", "_law_digit"] ["_law_pot_here", "_law_many"] (df_law_drawS).scope := ⟨rfl, rfl, rfl, by decide +kernel, rfl, by decide +kernel, by decide +kernel⟩
theorem w_law_drawS (F : Free mg) (SR : base.NoSeer) (TR : P.given.tree = none) {f : Addr} {fd : FuncData} (Fd : FunD K (df_law_drawS).name (df_law_drawS).qual (df_law_drawS).params (df_law_drawS).body (df_law_drawS).scope ((df_law_drawS).dvs K) ((df_law_drawS).kws K) f fd) (hm : mg (df_law_drawS).name = some (.ref f)) :
    DefAt P w K mg base "_law_draw" ["_law_pot_here", "_law_many"] 37 fn_law_drawS f fd := by
  have nd : (["_law_pot_here", "_law_many", "_law_digit"] : List Str).Nodup := sc_law_drawS.nd
  refine def3 (d := df_law_drawS) (k := 36) (m := 2) (n := 3) (t := d_law_drawS) Fd rfl hm sc_law_drawS rfl rfl (fun _ _ _ _ _ _ us hl => match us, hl with | [_, _], _ => rfl) (fun cdv A outer s H Ex W hr tk hp => ?_)
  have sr : Sr (cx3 P w K mg base ["_law_pot_here", "_law_many", "_law_digit"] (df_law_drawS).qual (df_law_drawS).scope f cdv A outer s H Ex) := ⟨SR, TR, _, _, rfl, rfl, rfl, rfl, rfl⟩
  have hu := hr.units
  have hu1 : (cx3 P w K mg base ["_law_pot_here", "_law_many", "_law_digit"] (df_law_drawS).qual (df_law_drawS).scope f cdv A outer s H Ex).A.units + 65 < cLine := by have := hr.un; omega
  exact (ss3_cons (s3_if (t3_cmp op_gt ok_gt (e3_ix ix_seq ok_ix (e3_var 0) e3_int) e3_int) (ss3_cons (s3_asg (e3_blt call_divmodW ok_divmod F.divmod (a3_cons (e3_ix ix_seq ok_ix (e3_var 0) e3_int) (a3_cons (e3_var 1) a3_nil))) (g3_tup rfl (gs3_cons (g3_sub (e3_var 0) e3_int) (gs3_cons (g3_name 2 nd) gs3_nil))))
    (ss3_one (s3_ret (e3_var 2)))) ss3_nil)
    (ss3_cons (s3_asg (e3_op op_modN ok_mod (e3_op op_add3 ok_add (e3_op op_mul3 ok_mul (e3_ix ix_seq ok_ix (e3_var 0) e3_int) e3_int) e3_int) e3_int) (g3_sub (e3_var 0) e3_int))
    (ss3_one (s3_ret (e3_op op_modN ok_mod (e3_op (op_fdiv4 sr hr) ok_fdiv (e3_op op_modN ok_mod (e3_op op_mul3 ok_mul (e3_ix ix_seq ok_ix (e3_var 0) e3_int) (e3_ix ix_seq ok_ix (e3_var 0) e3_int)) e3_int) e3_int) (e3_var 1))))))
theorem sc_law_fracS : FnScope ["_law_a", "_law_b", "_law_one", "_law_other", "_law_by"] ["_law_a", "_law_b"] (df_law_fracS).scope := ⟨rfl, rfl, rfl, by decide +kernel, rfl, by decide +kernel, by decide +kernel⟩
theorem w_law_fracS (F : Free mg) (SR : base.NoSeer) (TR : P.given.tree = none) {f : Addr} {fd : FuncData} (Fd : FunD K (df_law_fracS).name (df_law_fracS).qual (df_law_fracS).params (df_law_fracS).body (df_law_fracS).scope ((df_law_fracS).dvs K) ((df_law_fracS).kws K) f fd) (hm : mg (df_law_fracS).name = some (.ref f)) :
    DefAt P w K mg base "_law_frac" ["_law_a", "_law_b"] 37 fn_law_fracS f fd := by
  have nd : (["_law_a", "_law_b", "_law_one", "_law_other", "_law_by"] : List Str).Nodup := sc_law_fracS.nd
  refine def3 (d := df_law_fracS) (k := 36) (m := 2) (n := 5) (t := d_law_fracS) Fd rfl hm sc_law_fracS rfl rfl (fun _ _ _ _ _ _ us hl => match us, hl with | [_, _], _ => rfl) (fun cdv A outer s H Ex W hr tk hp => ?_)
  have sr : Sr (cx3 P w K mg base ["_law_a", "_law_b", "_law_one", "_law_other", "_law_by"] (df_law_fracS).qual (df_law_fracS).scope f cdv A outer s H Ex) := ⟨SR, TR, _, _, rfl, rfl, rfl, rfl, rfl⟩
  have hu := hr.units
  have hu1 : (cx3 P w K mg base ["_law_a", "_law_b", "_law_one", "_law_other", "_law_by"] (df_law_fracS).qual (df_law_fracS).scope f cdv A outer s H Ex).A.units + 65 < cLine := by have := hr.un; omega
  exact (ss3_cons (s3_par 2 3 rfl (e3_blt call_abs ok_abs F.abs (a3_cons (e3_var 0) a3_nil)) (e3_blt call_abs ok_abs F.abs (a3_cons (e3_var 1) a3_nil)) nd)
    (ss3_cons (s3_while hp (t3_cmp op_gt ok_gt (e3_var 3) e3_int) (ss3_one (s3_par 2 3 rfl (e3_var 3) (e3_op op_modN ok_mod (e3_var 2) (e3_var 3)) nd)))
    (ss3_cons (s3_set 4 (e3_if (t3_cmp op_gt ok_gt (e3_var 1) e3_int) (e3_var 2) (e3_un un_neg ok_neg (e3_var 2))) nd)
    (ss3_one (s3_ret (e3_tup (a3_cons (e3_op (op_fdiv4 sr hr) ok_fdiv (e3_var 0) (e3_var 4)) (a3_cons (e3_op (op_fdiv4 sr hr) ok_fdiv (e3_var 1) (e3_var 4)) a3_nil))))))))
theorem sc_law_plusS : FnScope ["_law_one", "_law_other"] ["_law_one", "_law_other"] (df_law_plusS).scope := ⟨rfl, rfl, rfl, by decide +kernel, rfl, by decide +kernel, by decide +kernel⟩
theorem w_law_plusS (F : Free mg) (SR : base.NoSeer) (TR : P.given.tree = none) (D_law_fracS : Def3 P w K mg base "_law_frac" ["_law_a", "_law_b"] 37 fn_law_fracS) {f : Addr} {fd : FuncData} (Fd : FunD K (df_law_plusS).name (df_law_plusS).qual (df_law_plusS).params (df_law_plusS).body (df_law_plusS).scope ((df_law_plusS).dvs K) ((df_law_plusS).kws K) f fd) (hm : mg (df_law_plusS).name = some (.ref f)) :
    DefAt P w K mg base "_law_plus" ["_law_one", "_law_other"] 38 fn_law_plusS f fd := by
  have nd : (["_law_one", "_law_other"] : List Str).Nodup := sc_law_plusS.nd
  refine def3 (d := df_law_plusS) (k := 37) (m := 2) (n := 2) (t := d_law_plusS) Fd rfl hm sc_law_plusS rfl rfl (fun _ _ _ _ _ _ us hl => match us, hl with | [_, _], _ => rfl) (fun cdv A outer s H Ex W hr tk hp => ?_)
  have sr : Sr (cx3 P w K mg base ["_law_one", "_law_other"] (df_law_plusS).qual (df_law_plusS).scope f cdv A outer s H Ex) := ⟨SR, TR, _, _, rfl, rfl, rfl, rfl, rfl⟩
  have hu := hr.units
  have hu1 : (cx3 P w K mg base ["_law_one", "_law_other"] (df_law_plusS).qual (df_law_plusS).scope f cdv A outer s H Ex).A.units + 65 < cLine := by have := hr.un; omega
  exact (ss3_one (s3_ret (e3_callD D_law_fracS hr tk (a3_cons (e3_op op_add3 ok_add (e3_op op_mul3 ok_mul (e3_ix ix_seq ok_ix (e3_var 0) e3_int) (e3_ix ix_seq ok_ix (e3_var 1) e3_int)) (e3_op op_mul3 ok_mul (e3_ix ix_seq ok_ix (e3_var 1) e3_int) (e3_ix ix_seq ok_ix (e3_var 0) e3_int))) (a3_cons (e3_op op_mul3 ok_mul (e3_ix ix_seq ok_ix (e3_var 0) e3_int) (e3_ix ix_seq ok_ix (e3_var 1) e3_int)) a3_nil)))))
theorem sc_law_lessS : FnScope ["_law_one", "_law_other"] ["_law_one", "_law_other"] (df_law_lessS).scope := ⟨rfl, rfl, rfl, by decide +kernel, rfl, by decide +kernel, by decide +kernel⟩
theorem w_law_lessS (F : Free mg) (SR : base.NoSeer) (TR : P.given.tree = none) (D_law_fracS : Def3 P w K mg base "_law_frac" ["_law_a", "_law_b"] 37 fn_law_fracS) {f : Addr} {fd : FuncData} (Fd : FunD K (df_law_lessS).name (df_law_lessS).qual (df_law_lessS).params (df_law_lessS).body (df_law_lessS).scope ((df_law_lessS).dvs K) ((df_law_lessS).kws K) f fd) (hm : mg (df_law_lessS).name = some (.ref f)) :
    DefAt P w K mg base "_law_less" ["_law_one", "_law_other"] 38 fn_law_lessS f fd := by
  have nd : (["_law_one", "_law_other"] : List Str).Nodup := sc_law_lessS.nd
  refine def3 (d := df_law_lessS) (k := 37) (m := 2) (n := 2) (t := d_law_lessS) Fd rfl hm sc_law_lessS rfl rfl (fun _ _ _ _ _ _ us hl => match us, hl with | [_, _], _ => rfl) (fun cdv A outer s H Ex W hr tk hp => ?_)
  have sr : Sr (cx3 P w K mg base ["_law_one", "_law_other"] (df_law_lessS).qual (df_law_lessS).scope f cdv A outer s H Ex) := ⟨SR, TR, _, _, rfl, rfl, rfl, rfl, rfl⟩
  have hu := hr.units
  have hu1 : (cx3 P w K mg base ["_law_one", "_law_other"] (df_law_lessS).qual (df_law_lessS).scope f cdv A outer s H Ex).A.units + 65 < cLine := by have := hr.un; omega
  exact (ss3_one (s3_ret (e3_callD D_law_fracS hr tk (a3_cons (e3_op op_sub ok_sub (e3_op op_mul3 ok_mul (e3_ix ix_seq ok_ix (e3_var 0) e3_int) (e3_ix ix_seq ok_ix (e3_var 1) e3_int)) (e3_op op_mul3 ok_mul (e3_ix ix_seq ok_ix (e3_var 1) e3_int) (e3_ix ix_seq ok_ix (e3_var 0) e3_int))) (a3_cons (e3_op op_mul3 ok_mul (e3_ix ix_seq ok_ix (e3_var 0) e3_int) (e3_ix ix_seq ok_ix (e3_var 1) e3_int)) a3_nil)))))
theorem sc_law_timesS : FnScope ["_law_one", "_law_other"] ["_law_one", "_law_other"] (df_law_timesS).scope := ⟨rfl, rfl, rfl, by decide +kernel, rfl, by decide +kernel, by decide +kernel⟩
theorem w_law_timesS (F : Free mg) (SR : base.NoSeer) (TR : P.given.tree = none) (D_law_fracS : Def3 P w K mg base "_law_frac" ["_law_a", "_law_b"] 37 fn_law_fracS) {f : Addr} {fd : FuncData} (Fd : FunD K (df_law_timesS).name (df_law_timesS).qual (df_law_timesS).params (df_law_timesS).body (df_law_timesS).scope ((df_law_timesS).dvs K) ((df_law_timesS).kws K) f fd) (hm : mg (df_law_timesS).name = some (.ref f)) :
    DefAt P w K mg base "_law_times" ["_law_one", "_law_other"] 38 fn_law_timesS f fd := by
  have nd : (["_law_one", "_law_other"] : List Str).Nodup := sc_law_timesS.nd
  refine def3 (d := df_law_timesS) (k := 37) (m := 2) (n := 2) (t := d_law_timesS) Fd rfl hm sc_law_timesS rfl rfl (fun _ _ _ _ _ _ us hl => match us, hl with | [_, _], _ => rfl) (fun cdv A outer s H Ex W hr tk hp => ?_)
  have sr : Sr (cx3 P w K mg base ["_law_one", "_law_other"] (df_law_timesS).qual (df_law_timesS).scope f cdv A outer s H Ex) := ⟨SR, TR, _, _, rfl, rfl, rfl, rfl, rfl⟩
  have hu := hr.units
  have hu1 : (cx3 P w K mg base ["_law_one", "_law_other"] (df_law_timesS).qual (df_law_timesS).scope f cdv A outer s H Ex).A.units + 65 < cLine := by have := hr.un; omega
  exact (ss3_one (s3_ret (e3_callD D_law_fracS hr tk (a3_cons (e3_op op_mul3 ok_mul (e3_ix ix_seq ok_ix (e3_var 0) e3_int) (e3_ix ix_seq ok_ix (e3_var 1) e3_int)) (a3_cons (e3_op op_mul3 ok_mul (e3_ix ix_seq ok_ix (e3_var 0) e3_int) (e3_ix ix_seq ok_ix (e3_var 1) e3_int)) a3_nil)))))
theorem sc_law_overS : FnScope ["_law_one", "_law_other"] ["_law_one", "_law_other"] (df_law_overS).scope := ⟨rfl, rfl, rfl, by decide +kernel, rfl, by decide +kernel, by decide +kernel⟩
theorem w_law_overS (F : Free mg) (SR : base.NoSeer) (TR : P.given.tree = none) (D_law_fracS : Def3 P w K mg base "_law_frac" ["_law_a", "_law_b"] 37 fn_law_fracS) {f : Addr} {fd : FuncData} (Fd : FunD K (df_law_overS).name (df_law_overS).qual (df_law_overS).params (df_law_overS).body (df_law_overS).scope ((df_law_overS).dvs K) ((df_law_overS).kws K) f fd) (hm : mg (df_law_overS).name = some (.ref f)) :
    DefAt P w K mg base "_law_over" ["_law_one", "_law_other"] 38 fn_law_overS f fd := by
  have nd : (["_law_one", "_law_other"] : List Str).Nodup := sc_law_overS.nd
  refine def3 (d := df_law_overS) (k := 37) (m := 2) (n := 2) (t := d_law_overS) Fd rfl hm sc_law_overS rfl rfl (fun _ _ _ _ _ _ us hl => match us, hl with | [_, _], _ => rfl) (fun cdv A outer s H Ex W hr tk hp => ?_)
  have sr : Sr (cx3 P w K mg base ["_law_one", "_law_other"] (df_law_overS).qual (df_law_overS).scope f cdv A outer s H Ex) := ⟨SR, TR, _, _, rfl, rfl, rfl, rfl, rfl⟩
  have hu := hr.units
  have hu1 : (cx3 P w K mg base ["_law_one", "_law_other"] (df_law_overS).qual (df_law_overS).scope f cdv A outer s H Ex).A.units + 65 < cLine := by have := hr.un; omega
  exact (ss3_one (s3_ret (e3_callD D_law_fracS hr tk (a3_cons (e3_op op_mul3 ok_mul (e3_ix ix_seq ok_ix (e3_var 0) e3_int) (e3_ix ix_seq ok_ix (e3_var 1) e3_int)) (a3_cons (e3_op op_mul3 ok_mul (e3_ix ix_seq ok_ix (e3_var 0) e3_int) (e3_ix ix_seq ok_ix (e3_var 1) e3_int)) a3_nil)))))
theorem sc_law_aheadS : FnScope ["_law_one", "_law_other"] ["_law_one", "_law_other"] (df_law_aheadS).scope := ⟨rfl, rfl, rfl, by decide +kernel, rfl, by decide +kernel, by decide +kernel⟩
theorem w_law_aheadS (F : Free mg) (SR : base.NoSeer) (TR : P.given.tree = none) {f : Addr} {fd : FuncData} (Fd : FunD K (df_law_aheadS).name (df_law_aheadS).qual (df_law_aheadS).params (df_law_aheadS).body (df_law_aheadS).scope ((df_law_aheadS).dvs K) ((df_law_aheadS).kws K) f fd) (hm : mg (df_law_aheadS).name = some (.ref f)) :
    DefAt P w K mg base "_law_ahead" ["_law_one", "_law_other"] 37 fn_law_aheadS f fd := by
  have nd : (["_law_one", "_law_other"] : List Str).Nodup := sc_law_aheadS.nd
  refine def3 (d := df_law_aheadS) (k := 36) (m := 2) (n := 2) (t := d_law_aheadS) Fd rfl hm sc_law_aheadS rfl rfl (fun _ _ _ _ _ _ us hl => match us, hl with | [_, _], _ => rfl) (fun cdv A outer s H Ex W hr tk hp => ?_)
  have sr : Sr (cx3 P w K mg base ["_law_one", "_law_other"] (df_law_aheadS).qual (df_law_aheadS).scope f cdv A outer s H Ex) := ⟨SR, TR, _, _, rfl, rfl, rfl, rfl, rfl⟩
  have hu := hr.units
  have hu1 : (cx3 P w K mg base ["_law_one", "_law_other"] (df_law_aheadS).qual (df_law_aheadS).scope f cdv A outer s H Ex).A.units + 65 < cLine := by have := hr.un; omega
  exact (ss3_one (s3_ret (e3_cmp op_lt ok_lt (e3_op op_mul3 ok_mul (e3_ix ix_seq ok_ix (e3_var 0) e3_int) (e3_ix ix_seq ok_ix (e3_var 1) e3_int)) (e3_op op_mul3 ok_mul (e3_ix ix_seq ok_ix (e3_var 1) e3_int) (e3_ix ix_seq ok_ix (e3_var 0) e3_int)))))
theorem sc_law_worthS : FnScope ["_law_poly_here", "_law_x", "_law_found", "_law_part"] ["_law_poly_here", "_law_x"] (df_law_worthS).scope := ⟨rfl, rfl, rfl, by decide +kernel, rfl, by decide +kernel, by decide +kernel⟩
theorem w_law_worthS (F : Free mg) (SR : base.NoSeer) (TR : P.given.tree = none) (D_law_plusS : Def3 P w K mg base "_law_plus" ["_law_one", "_law_other"] 38 fn_law_plusS) (D_law_timesS : Def3 P w K mg base "_law_times" ["_law_one", "_law_other"] 38 fn_law_timesS) {f : Addr} {fd : FuncData} (Fd : FunD K (df_law_worthS).name (df_law_worthS).qual (df_law_worthS).params (df_law_worthS).body (df_law_worthS).scope ((df_law_worthS).dvs K) ((df_law_worthS).kws K) f fd) (hm : mg (df_law_worthS).name = some (.ref f)) :
    DefAt P w K mg base "_law_worth" ["_law_poly_here", "_law_x"] 39 fn_law_worthS f fd := by
  have nd : (["_law_poly_here", "_law_x", "_law_found", "_law_part"] : List Str).Nodup := sc_law_worthS.nd
  refine def3 (d := df_law_worthS) (k := 38) (m := 2) (n := 4) (t := d_law_worthS) Fd rfl hm sc_law_worthS rfl rfl (fun _ _ _ _ _ _ us hl => match us, hl with | [_, _], _ => rfl) (fun cdv A outer s H Ex W hr tk hp => ?_)
  have sr : Sr (cx3 P w K mg base ["_law_poly_here", "_law_x", "_law_found", "_law_part"] (df_law_worthS).qual (df_law_worthS).scope f cdv A outer s H Ex) := ⟨SR, TR, _, _, rfl, rfl, rfl, rfl, rfl⟩
  have hu := hr.units
  have hu1 : (cx3 P w K mg base ["_law_poly_here", "_law_x", "_law_found", "_law_part"] (df_law_worthS).qual (df_law_worthS).scope f cdv A outer s H Ex).A.units + 65 < cLine := by have := hr.un; omega
  exact (ss3_cons (s3_set 2 (e3_tup (a3_cons e3_int (a3_cons e3_int a3_nil))) nd)
    (ss3_cons (s3_for hp rfl (i3_rev F.reversed (e3_var 0)) (g3_name 3 nd) (ss3_one (s3_set 2 (e3_callD D_law_plusS hr tk (a3_cons (e3_callD D_law_timesS hr tk (a3_cons (e3_var 2) (a3_cons (e3_var 1) a3_nil))) (a3_cons (e3_var 3) a3_nil))) nd)))
    (ss3_one (s3_ret (e3_var 2)))))
theorem sc_law_xsS : FnScope ["_law_pot_here", "_law_many", "_law_bottom", "_law_at", "_law_found", "_law_k"] ["_law_pot_here", "_law_many"] (df_law_xsS).scope := ⟨rfl, rfl, rfl, by decide +kernel, rfl, by decide +kernel, by decide +kernel⟩
theorem w_law_xsS (F : Free mg) (SR : base.NoSeer) (TR : P.given.tree = none) (D_law_drawS : Def3 P w K mg base "_law_draw" ["_law_pot_here", "_law_many"] 37 fn_law_drawS) (D_law_fracS : Def3 P w K mg base "_law_frac" ["_law_a", "_law_b"] 37 fn_law_fracS) {f : Addr} {fd : FuncData} (Fd : FunD K (df_law_xsS).name (df_law_xsS).qual (df_law_xsS).params (df_law_xsS).body (df_law_xsS).scope ((df_law_xsS).dvs K) ((df_law_xsS).kws K) f fd) (hm : mg (df_law_xsS).name = some (.ref f)) :
    DefAt P w K mg base "_law_xs" ["_law_pot_here", "_law_many"] 38 fn_law_xsS f fd := by
  have nd : (["_law_pot_here", "_law_many", "_law_bottom", "_law_at", "_law_found", "_law_k"] : List Str).Nodup := sc_law_xsS.nd
  refine def3 (d := df_law_xsS) (k := 37) (m := 2) (n := 6) (t := d_law_xsS) Fd rfl hm sc_law_xsS rfl rfl (fun _ _ _ _ _ _ us hl => match us, hl with | [_, _], _ => rfl) (fun cdv A outer s H Ex W hr tk hp => ?_)
  have sr : Sr (cx3 P w K mg base ["_law_pot_here", "_law_many", "_law_bottom", "_law_at", "_law_found", "_law_k"] (df_law_xsS).qual (df_law_xsS).scope f cdv A outer s H Ex) := ⟨SR, TR, _, _, rfl, rfl, rfl, rfl, rfl⟩
  have hu := hr.units
  have hu1 : (cx3 P w K mg base ["_law_pot_here", "_law_many", "_law_bottom", "_law_at", "_law_found", "_law_k"] (df_law_xsS).qual (df_law_xsS).scope f cdv A outer s H Ex).A.units + 65 < cLine := by have := hr.un; omega
  exact (ss3_cons (s3_set 2 (e3_op op_add3 ok_add e3_int (e3_callD D_law_drawS hr tk (a3_cons (e3_var 0) (a3_cons e3_int a3_nil)))) nd)
    (ss3_cons (s3_set 3 (e3_op op_sub ok_sub (e3_callD D_law_drawS hr tk (a3_cons (e3_var 0) (a3_cons e3_int a3_nil))) e3_int) nd)
    (ss3_cons (s3_set 4 (e3_lst a3_nil) nd)
    (ss3_cons (s3_for hp rfl (i3_range1 F.range (a3_cons (e3_var 1) a3_nil)) (g3_name 5 nd) (ss3_cons (s3_expr (e3_mt PySem.F.plainAttrs_list PySem.F.slot_list_append PySem.F.type_list_append mt_append ok_append (e3_var 4) (a3_cons (e3_callD D_law_fracS hr tk (a3_cons (e3_var 3) (a3_cons (e3_var 2) a3_nil))) a3_nil)))
    (ss3_one (s3_set 3 (e3_op op_add3 ok_add (e3_op op_add3 ok_add (e3_var 3) e3_int) (e3_callD D_law_drawS hr tk (a3_cons (e3_var 0) (a3_cons e3_int a3_nil)))) nd))))
    (ss3_one (s3_ret (e3_var 4)))))))
theorem sc_law_degreeS : FnScope ["_law_pot_here"] ["_law_pot_here"] (df_law_degreeS).scope := ⟨rfl, rfl, rfl, by decide +kernel, rfl, by decide +kernel, by decide +kernel⟩
theorem w_law_degreeS (F : Free mg) (SR : base.NoSeer) (TR : P.given.tree = none) (D_law_drawS : Def3 P w K mg base "_law_draw" ["_law_pot_here", "_law_many"] 37 fn_law_drawS) {f : Addr} {fd : FuncData} (Fd : FunD K (df_law_degreeS).name (df_law_degreeS).qual (df_law_degreeS).params (df_law_degreeS).body (df_law_degreeS).scope ((df_law_degreeS).dvs K) ((df_law_degreeS).kws K) f fd) (hm : mg (df_law_degreeS).name = some (.ref f)) :
    DefAt P w K mg base "_law_degree" ["_law_pot_here"] 38 fn_law_degreeS f fd := by
  have nd : (["_law_pot_here"] : List Str).Nodup := sc_law_degreeS.nd
  refine def3 (d := df_law_degreeS) (k := 37) (m := 1) (n := 1) (t := d_law_degreeS) Fd rfl hm sc_law_degreeS rfl rfl (fun _ _ _ _ _ _ us hl => match us, hl with | [_], _ => rfl) (fun cdv A outer s H Ex W hr tk hp => ?_)
  have sr : Sr (cx3 P w K mg base ["_law_pot_here"] (df_law_degreeS).qual (df_law_degreeS).scope f cdv A outer s H Ex) := ⟨SR, TR, _, _, rfl, rfl, rfl, rfl, rfl⟩
  have hu := hr.units
  have hu1 : (cx3 P w K mg base ["_law_pot_here"] (df_law_degreeS).qual (df_law_degreeS).scope f cdv A outer s H Ex).A.units + 65 < cLine := by have := hr.un; omega
  exact (ss3_one (s3_ret (e3_ix ix_seq ok_ix (e3_lst (a3_cons (e3_callD D_law_drawS hr tk (a3_cons (e3_var 0) (a3_cons e3_int a3_nil))) (a3_cons (e3_op op_add3 ok_add e3_int (e3_callD D_law_drawS hr tk (a3_cons (e3_var 0) (a3_cons e3_int a3_nil)))) a3_nil))) (e3_bty call_int1 ok_intOf F.int (a3_cons (e3_cmp (op_eqD hu) ok_eq (e3_callD D_law_drawS hr tk (a3_cons (e3_var 0) (a3_cons e3_int a3_nil))) e3_int) a3_nil)))))
theorem sc_law_weightS : FnScope ["_law_pot_here"] ["_law_pot_here"] (df_law_weightS).scope := ⟨rfl, rfl, rfl, by decide +kernel, rfl, by decide +kernel, by decide +kernel⟩
theorem w_law_weightS (F : Free mg) (SR : base.NoSeer) (TR : P.given.tree = none) (D_law_drawS : Def3 P w K mg base "_law_draw" ["_law_pot_here", "_law_many"] 37 fn_law_drawS) (D_law_fracS : Def3 P w K mg base "_law_frac" ["_law_a", "_law_b"] 37 fn_law_fracS) {f : Addr} {fd : FuncData} (Fd : FunD K (df_law_weightS).name (df_law_weightS).qual (df_law_weightS).params (df_law_weightS).body (df_law_weightS).scope ((df_law_weightS).dvs K) ((df_law_weightS).kws K) f fd) (hm : mg (df_law_weightS).name = some (.ref f)) :
    DefAt P w K mg base "_law_weight" ["_law_pot_here"] 38 fn_law_weightS f fd := by
  have nd : (["_law_pot_here"] : List Str).Nodup := sc_law_weightS.nd
  refine def3 (d := df_law_weightS) (k := 37) (m := 1) (n := 1) (t := d_law_weightS) Fd rfl hm sc_law_weightS rfl rfl (fun _ _ _ _ _ _ us hl => match us, hl with | [_], _ => rfl) (fun cdv A outer s H Ex W hr tk hp => ?_)
  have sr : Sr (cx3 P w K mg base ["_law_pot_here"] (df_law_weightS).qual (df_law_weightS).scope f cdv A outer s H Ex) := ⟨SR, TR, _, _, rfl, rfl, rfl, rfl, rfl⟩
  have hu := hr.units
  have hu1 : (cx3 P w K mg base ["_law_pot_here"] (df_law_weightS).qual (df_law_weightS).scope f cdv A outer s H Ex).A.units + 65 < cLine := by have := hr.un; omega
  exact (ss3_one (s3_ret (e3_ix ix_seq ok_ix (e3_lst (a3_cons (e3_tup (a3_cons e3_int (a3_cons e3_int a3_nil))) (a3_cons (e3_callD D_law_fracS hr tk (a3_cons (e3_op op_add3 ok_add e3_int (e3_callD D_law_drawS hr tk (a3_cons (e3_var 0) (a3_cons e3_int a3_nil)))) (a3_cons (e3_op op_add3 ok_add e3_int (e3_callD D_law_drawS hr tk (a3_cons (e3_var 0) (a3_cons e3_int a3_nil)))) a3_nil))) a3_nil))) (e3_callD D_law_drawS hr tk (a3_cons (e3_var 0) (a3_cons e3_int a3_nil))))))
theorem sc_law_polyS : FnScope ["_law_pot_here", "_law_n", "_law_parts", "_law_k"] ["_law_pot_here", "_law_n"] (df_law_polyS).scope := ⟨rfl, rfl, rfl, by decide +kernel, rfl, by decide +kernel, by decide +kernel⟩
theorem w_law_polyS (F : Free mg) (SR : base.NoSeer) (TR : P.given.tree = none) (D_law_drawS : Def3 P w K mg base "_law_draw" ["_law_pot_here", "_law_many"] 37 fn_law_drawS) {f : Addr} {fd : FuncData} (Fd : FunD K (df_law_polyS).name (df_law_polyS).qual (df_law_polyS).params (df_law_polyS).body (df_law_polyS).scope ((df_law_polyS).dvs K) ((df_law_polyS).kws K) f fd) (hm : mg (df_law_polyS).name = some (.ref f)) :
    DefAt P w K mg base "_law_poly" ["_law_pot_here", "_law_n"] 38 fn_law_polyS f fd := by
  have nd : (["_law_pot_here", "_law_n", "_law_parts", "_law_k"] : List Str).Nodup := sc_law_polyS.nd
  refine def3 (d := df_law_polyS) (k := 37) (m := 2) (n := 4) (t := d_law_polyS) Fd rfl hm sc_law_polyS rfl rfl (fun _ _ _ _ _ _ us hl => match us, hl with | [_, _], _ => rfl) (fun cdv A outer s H Ex W hr tk hp => ?_)
  have sr : Sr (cx3 P w K mg base ["_law_pot_here", "_law_n", "_law_parts", "_law_k"] (df_law_polyS).qual (df_law_polyS).scope f cdv A outer s H Ex) := ⟨SR, TR, _, _, rfl, rfl, rfl, rfl, rfl⟩
  have hu := hr.units
  have hu1 : (cx3 P w K mg base ["_law_pot_here", "_law_n", "_law_parts", "_law_k"] (df_law_polyS).qual (df_law_polyS).scope f cdv A outer s H Ex).A.units + 65 < cLine := by have := hr.un; omega
  exact (ss3_cons (s3_setLc 2 (own := [("_law_k", 3)]) rfl nd (i3_range1 F.range (a3_cons (e3_op op_add3 ok_add (e3_var 1) e3_int) a3_nil)) (by kernel_rfl) (fun _ _ _ _ _ => (g3_name 3 nd)) (fun _ _ _ _ _ => ts3_nil) (fun _ _ _ _ _ => (e3_tup (a3_cons (e3_op op_sub ok_sub (e3_callD D_law_drawS hr takes0 (a3_cons (e3_var 0) (a3_cons e3_int a3_nil))) e3_int) (a3_cons e3_int a3_nil)))))
    (ss3_cons (s3_while hp (t3_w (w3_and (t3_cmp (op_neD hu) ok_ne (e3_var 2) (e3_lst a3_nil)) (w3_and1 (t3_cmp (op_eqD hu) ok_eq (e3_ix ix_seq ok_ix (e3_var 2) (e3_un un_neg ok_neg e3_int)) (e3_tup (a3_cons e3_int (a3_cons e3_int a3_nil))))))) (ss3_one (s3_expr (e3_mt0 PySem.F.plainAttrs_list PySem.F.slot_list_pop PySem.F.type_list_pop mt_pop ok_pop (e3_var 2)))))
    (ss3_one (s3_ret (e3_bty call_tuple_of ok_tuple F.tuple (a3_cons (e3_var 2) a3_nil))))))
theorem sc_law_is_witnessS : FnScope ["_law_table", "_law_n", "_law_witness_here", "_law_some", "_law_k", "_law_total", "_law_one", "_law_spot_here"] ["_law_table", "_law_n", "_law_witness_here"] (df_law_is_witnessS).scope := ⟨rfl, rfl, rfl, by decide +kernel, rfl, by decide +kernel, by decide +kernel⟩
theorem w_law_is_witnessS (F : Free mg) (SR : base.NoSeer) (TR : P.given.tree = none) (D_law_plusS : Def3 P w K mg base "_law_plus" ["_law_one", "_law_other"] 38 fn_law_plusS) (D_law_timesS : Def3 P w K mg base "_law_times" ["_law_one", "_law_other"] 38 fn_law_timesS) {f : Addr} {fd : FuncData} (Fd : FunD K (df_law_is_witnessS).name (df_law_is_witnessS).qual (df_law_is_witnessS).params (df_law_is_witnessS).body (df_law_is_witnessS).scope ((df_law_is_witnessS).dvs K) ((df_law_is_witnessS).kws K) f fd) (hm : mg (df_law_is_witnessS).name = some (.ref f)) :
    DefAt P w K mg base "_law_is_witness" ["_law_table", "_law_n", "_law_witness_here"] 39 fn_law_is_witnessS f fd := by
  have nd : (["_law_table", "_law_n", "_law_witness_here", "_law_some", "_law_k", "_law_total", "_law_one", "_law_spot_here"] : List Str).Nodup := sc_law_is_witnessS.nd
  refine def3 (d := df_law_is_witnessS) (k := 38) (m := 3) (n := 8) (t := d_law_is_witnessS) Fd rfl hm sc_law_is_witnessS rfl rfl (fun _ _ _ _ _ _ us hl => match us, hl with | [_, _, _], _ => rfl) (fun cdv A outer s H Ex W hr tk hp => ?_)
  have sr : Sr (cx3 P w K mg base ["_law_table", "_law_n", "_law_witness_here", "_law_some", "_law_k", "_law_total", "_law_one", "_law_spot_here"] (df_law_is_witnessS).qual (df_law_is_witnessS).scope f cdv A outer s H Ex) := ⟨SR, TR, _, _, rfl, rfl, rfl, rfl, rfl⟩
  have hu := hr.units
  have hu1 : (cx3 P w K mg base ["_law_table", "_law_n", "_law_witness_here", "_law_some", "_law_k", "_law_total", "_law_one", "_law_spot_here"] (df_law_is_witnessS).qual (df_law_is_witnessS).scope f cdv A outer s H Ex).A.units + 65 < cLine := by have := hr.un; omega
  exact (ss3_cons (s3_set 3 (e3_bty call_list_of ok_list F.list (a3_cons (e3_var 2) a3_nil)) nd)
    (ss3_cons (s3_for hp rfl (i3_range1 F.range (a3_cons (e3_op op_add3 ok_add (e3_var 1) e3_int) a3_nil)) (g3_name 4 nd) (ss3_cons (s3_set 5 (e3_tup (a3_cons e3_int (a3_cons e3_int a3_nil))) nd)
    (ss3_cons (s3_for hp rfl (i3_lt (e3_var 3)) (g3_name 6 nd) (ss3_one (s3_set 5 (e3_callD D_law_plusS hr tk (a3_cons (e3_var 5) (a3_cons (e3_var 6) a3_nil))) nd)))
    (ss3_cons (s3_if (t3_cmp (op_neD hu) ok_ne (e3_var 5) (e3_tup (a3_cons e3_int (a3_cons e3_int a3_nil)))) (ss3_one (s3_ret e3_bl)) ss3_nil)
    (ss3_one (s3_setLc 3 (own := [("_law_one", 6), ("_law_spot_here", 7)]) rfl nd (i3_zip F.zip (e3_var 3) (e3_var 0)) (by kernel_rfl) (fun _ _ _ _ _ => (g3_tup rfl (gs3_cons (g3_name 6 nd) (gs3_cons (g3_name 7 nd) gs3_nil)))) (fun _ _ _ _ _ => ts3_nil) (fun _ _ _ _ _ => (e3_callD D_law_timesS hr takes0 (a3_cons (e3_var 6) (a3_cons (e3_ix ix_seq ok_ix (e3_var 7) e3_int) a3_nil))))))))))
    (ss3_one (s3_ret e3_bl))))
theorem sc_law_costS : FnScope ["_law_table", "_law_sides", "_law_witness_here", "_law_found", "_law_x", "_law_y", "_law_w", "_law_side", "_law_top", "_law_bottom"] ["_law_table", "_law_sides", "_law_witness_here"] (df_law_costS).scope := ⟨rfl, rfl, rfl, by decide +kernel, rfl, by decide +kernel, by decide +kernel⟩
theorem w_law_costS (F : Free mg) (SR : base.NoSeer) (TR : P.given.tree = none) (D_law_plusS : Def3 P w K mg base "_law_plus" ["_law_one", "_law_other"] 38 fn_law_plusS) (D_law_overS : Def3 P w K mg base "_law_over" ["_law_one", "_law_other"] 38 fn_law_overS) {f : Addr} {fd : FuncData} (Fd : FunD K (df_law_costS).name (df_law_costS).qual (df_law_costS).params (df_law_costS).body (df_law_costS).scope ((df_law_costS).dvs K) ((df_law_costS).kws K) f fd) (hm : mg (df_law_costS).name = some (.ref f)) :
    DefAt P w K mg base "_law_cost" ["_law_table", "_law_sides", "_law_witness_here"] 39 fn_law_costS f fd := by
  have nd : (["_law_table", "_law_sides", "_law_witness_here", "_law_found", "_law_x", "_law_y", "_law_w", "_law_side", "_law_top", "_law_bottom"] : List Str).Nodup := sc_law_costS.nd
  refine def3 (d := df_law_costS) (k := 38) (m := 3) (n := 10) (t := d_law_costS) Fd rfl hm sc_law_costS rfl rfl (fun _ _ _ _ _ _ us hl => match us, hl with | [_, _, _], _ => rfl) (fun cdv A outer s H Ex W hr tk hp => ?_)
  have sr : Sr (cx3 P w K mg base ["_law_table", "_law_sides", "_law_witness_here", "_law_found", "_law_x", "_law_y", "_law_w", "_law_side", "_law_top", "_law_bottom"] (df_law_costS).qual (df_law_costS).scope f cdv A outer s H Ex) := ⟨SR, TR, _, _, rfl, rfl, rfl, rfl, rfl⟩
  have hu := hr.units
  have hu1 : (cx3 P w K mg base ["_law_table", "_law_sides", "_law_witness_here", "_law_found", "_law_x", "_law_y", "_law_w", "_law_side", "_law_top", "_law_bottom"] (df_law_costS).qual (df_law_costS).scope f cdv A outer s H Ex).A.units + 65 < cLine := by have := hr.un; omega
  exact (ss3_cons (s3_set 3 (e3_tup (a3_cons e3_int (a3_cons e3_int a3_nil))) nd)
    (ss3_cons (s3_for hp rfl (i3_zip3 F.zip (e3_var 0) (e3_var 1) (e3_var 2)) (g3_tup rfl (gs3_cons (g3_tup rfl (gs3_cons (g3_name 4 nd) (gs3_cons (g3_name 5 nd) (gs3_cons (g3_name 6 nd) gs3_nil)))) (gs3_cons (g3_name 7 nd) (gs3_cons (g3_tup rfl (gs3_cons (g3_name 8 nd) (gs3_cons (g3_name 9 nd) gs3_nil))) gs3_nil)))) (ss3_one (s3_if (t3_w (w3_or (t3_w (w3_and (t3_cmp op_gt ok_gt (e3_var 8) e3_int) (w3_and1 (t3_cmp (op_neD hu) ok_ne (e3_var 7) e3_int)))) (w3_or1 (t3_w (w3_and (t3_cmp op_lt ok_lt (e3_var 8) e3_int) (w3_and1 (t3_cmp (op_neD hu) ok_ne (e3_var 7) (e3_un un_neg ok_neg e3_int)))))))) (ss3_one (s3_set 3 (e3_callD D_law_plusS hr tk (a3_cons (e3_var 3) (a3_cons (e3_callD D_law_overS hr tk (a3_cons (e3_tup (a3_cons (e3_blt call_abs ok_abs F.abs (a3_cons (e3_var 8) a3_nil)) (a3_cons (e3_var 9) a3_nil))) (a3_cons (e3_var 6) a3_nil))) a3_nil))) nd)) ss3_nil)))
    (ss3_one (s3_ret (e3_var 3)))))
theorem sc_law_keepsS : FnScope ["_law_table", "_law_sides", "_law_poly_here", "_law_x", "_law_y", "_law_w", "_law_side", "_law_here"] ["_law_table", "_law_sides", "_law_poly_here"] (df_law_keepsS).scope := ⟨rfl, rfl, rfl, by decide +kernel, rfl, by decide +kernel, by decide +kernel⟩
theorem w_law_keepsS (F : Free mg) (SR : base.NoSeer) (TR : P.given.tree = none) (D_law_aheadS : Def3 P w K mg base "_law_ahead" ["_law_one", "_law_other"] 37 fn_law_aheadS) (D_law_worthS : Def3 P w K mg base "_law_worth" ["_law_poly_here", "_law_x"] 39 fn_law_worthS) {f : Addr} {fd : FuncData} (Fd : FunD K (df_law_keepsS).name (df_law_keepsS).qual (df_law_keepsS).params (df_law_keepsS).body (df_law_keepsS).scope ((df_law_keepsS).dvs K) ((df_law_keepsS).kws K) f fd) (hm : mg (df_law_keepsS).name = some (.ref f)) :
    DefAt P w K mg base "_law_keeps" ["_law_table", "_law_sides", "_law_poly_here"] 40 fn_law_keepsS f fd := by
  have nd : (["_law_table", "_law_sides", "_law_poly_here", "_law_x", "_law_y", "_law_w", "_law_side", "_law_here"] : List Str).Nodup := sc_law_keepsS.nd
  refine def3 (d := df_law_keepsS) (k := 39) (m := 3) (n := 8) (t := d_law_keepsS) Fd rfl hm sc_law_keepsS rfl rfl (fun _ _ _ _ _ _ us hl => match us, hl with | [_, _, _], _ => rfl) (fun cdv A outer s H Ex W hr tk hp => ?_)
  have sr : Sr (cx3 P w K mg base ["_law_table", "_law_sides", "_law_poly_here", "_law_x", "_law_y", "_law_w", "_law_side", "_law_here"] (df_law_keepsS).qual (df_law_keepsS).scope f cdv A outer s H Ex) := ⟨SR, TR, _, _, rfl, rfl, rfl, rfl, rfl⟩
  have hu := hr.units
  have hu1 : (cx3 P w K mg base ["_law_table", "_law_sides", "_law_poly_here", "_law_x", "_law_y", "_law_w", "_law_side", "_law_here"] (df_law_keepsS).qual (df_law_keepsS).scope f cdv A outer s H Ex).A.units + 65 < cLine := by have := hr.un; omega
  exact (ss3_cons (s3_for hp rfl (i3_zip F.zip (e3_var 0) (e3_var 1)) (g3_tup rfl (gs3_cons (g3_tup rfl (gs3_cons (g3_name 3 nd) (gs3_cons (g3_name 4 nd) (gs3_cons (g3_name 5 nd) gs3_nil)))) (gs3_cons (g3_name 6 nd) gs3_nil))) (ss3_cons (s3_set 7 (e3_callD D_law_worthS hr tk (a3_cons (e3_var 2) (a3_cons (e3_var 3) a3_nil))) nd)
    (ss3_one (s3_if (t3_w (w3_or (t3_w (w3_and (t3_cmp (op_eqD hu) ok_eq (e3_var 6) e3_int) (w3_and1 (t3_val (e3_callD D_law_aheadS hr tk (a3_cons (e3_var 7) (a3_cons (e3_var 4) a3_nil))))))) (w3_or1 (t3_w (w3_and (t3_cmp (op_eqD hu) ok_eq (e3_var 6) (e3_un un_neg ok_neg e3_int)) (w3_and1 (t3_val (e3_callD D_law_aheadS hr tk (a3_cons (e3_var 4) (a3_cons (e3_var 7) a3_nil)))))))))) (ss3_one (s3_ret e3_bl)) ss3_nil))))
    (ss3_one (s3_ret e3_bl)))
theorem sc_law_leversS : FnScope ["_law_xs_here", "_law_found", "_law_x", "_law_whole", "_law_other"] ["_law_xs_here"] (df_law_leversS).scope := ⟨rfl, rfl, rfl, by decide +kernel, rfl, by decide +kernel, by decide +kernel⟩
theorem w_law_leversS (F : Free mg) (SR : base.NoSeer) (TR : P.given.tree = none) (D_law_lessS : Def3 P w K mg base "_law_less" ["_law_one", "_law_other"] 38 fn_law_lessS) (D_law_timesS : Def3 P w K mg base "_law_times" ["_law_one", "_law_other"] 38 fn_law_timesS) (D_law_overS : Def3 P w K mg base "_law_over" ["_law_one", "_law_other"] 38 fn_law_overS) {f : Addr} {fd : FuncData} (Fd : FunD K (df_law_leversS).name (df_law_leversS).qual (df_law_leversS).params (df_law_leversS).body (df_law_leversS).scope ((df_law_leversS).dvs K) ((df_law_leversS).kws K) f fd) (hm : mg (df_law_leversS).name = some (.ref f)) :
    DefAt P w K mg base "_law_levers" ["_law_xs_here"] 39 fn_law_leversS f fd := by
  have nd : (["_law_xs_here", "_law_found", "_law_x", "_law_whole", "_law_other"] : List Str).Nodup := sc_law_leversS.nd
  refine def3 (d := df_law_leversS) (k := 38) (m := 1) (n := 5) (t := d_law_leversS) Fd rfl hm sc_law_leversS rfl rfl (fun _ _ _ _ _ _ us hl => match us, hl with | [_], _ => rfl) (fun cdv A outer s H Ex W hr tk hp => ?_)
  have sr : Sr (cx3 P w K mg base ["_law_xs_here", "_law_found", "_law_x", "_law_whole", "_law_other"] (df_law_leversS).qual (df_law_leversS).scope f cdv A outer s H Ex) := ⟨SR, TR, _, _, rfl, rfl, rfl, rfl, rfl⟩
  have hu := hr.units
  have hu1 : (cx3 P w K mg base ["_law_xs_here", "_law_found", "_law_x", "_law_whole", "_law_other"] (df_law_leversS).qual (df_law_leversS).scope f cdv A outer s H Ex).A.units + 65 < cLine := by have := hr.un; omega
  exact (ss3_cons (s3_set 1 (e3_lst a3_nil) nd)
    (ss3_cons (s3_for hp rfl (i3_lt (e3_var 0)) (g3_name 2 nd) (ss3_cons (s3_set 3 (e3_tup (a3_cons e3_int (a3_cons e3_int a3_nil))) nd)
    (ss3_cons (s3_for hp rfl (i3_lt (e3_var 0)) (g3_name 4 nd) (ss3_one (s3_if (t3_cmp (op_neD hu) ok_ne (e3_var 4) (e3_var 2)) (ss3_one (s3_set 3 (e3_callD D_law_timesS hr tk (a3_cons (e3_var 3) (a3_cons (e3_callD D_law_lessS hr tk (a3_cons (e3_var 2) (a3_cons (e3_var 4) a3_nil))) a3_nil))) nd)) ss3_nil)))
    (ss3_one (s3_expr (e3_mt PySem.F.plainAttrs_list PySem.F.slot_list_append PySem.F.type_list_append mt_append ok_append (e3_var 1) (a3_cons (e3_callD D_law_overS hr tk (a3_cons (e3_tup (a3_cons e3_int (a3_cons e3_int a3_nil))) (a3_cons (e3_var 3) a3_nil))) a3_nil)))))))
    (ss3_one (s3_ret (e3_var 1)))))
theorem sc_law_numberS : FnScope ["_law_pot_here"] ["_law_pot_here"] (df_law_numberS).scope := ⟨rfl, rfl, rfl, by decide +kernel, rfl, by decide +kernel, by decide +kernel⟩
theorem w_law_numberS (F : Free mg) (SR : base.NoSeer) (TR : P.given.tree = none) (D_law_drawS : Def3 P w K mg base "_law_draw" ["_law_pot_here", "_law_many"] 37 fn_law_drawS) (D_law_fracS : Def3 P w K mg base "_law_frac" ["_law_a", "_law_b"] 37 fn_law_fracS) {f : Addr} {fd : FuncData} (Fd : FunD K (df_law_numberS).name (df_law_numberS).qual (df_law_numberS).params (df_law_numberS).body (df_law_numberS).scope ((df_law_numberS).dvs K) ((df_law_numberS).kws K) f fd) (hm : mg (df_law_numberS).name = some (.ref f)) :
    DefAt P w K mg base "_law_number" ["_law_pot_here"] 38 fn_law_numberS f fd := by
  have nd : (["_law_pot_here"] : List Str).Nodup := sc_law_numberS.nd
  refine def3 (d := df_law_numberS) (k := 37) (m := 1) (n := 1) (t := d_law_numberS) Fd rfl hm sc_law_numberS rfl rfl (fun _ _ _ _ _ _ us hl => match us, hl with | [_], _ => rfl) (fun cdv A outer s H Ex W hr tk hp => ?_)
  have sr : Sr (cx3 P w K mg base ["_law_pot_here"] (df_law_numberS).qual (df_law_numberS).scope f cdv A outer s H Ex) := ⟨SR, TR, _, _, rfl, rfl, rfl, rfl, rfl⟩
  have hu := hr.units
  have hu1 : (cx3 P w K mg base ["_law_pot_here"] (df_law_numberS).qual (df_law_numberS).scope f cdv A outer s H Ex).A.units + 65 < cLine := by have := hr.un; omega
  exact (ss3_one (s3_ret (e3_callD D_law_fracS hr tk (a3_cons (e3_op op_sub ok_sub (e3_callD D_law_drawS hr tk (a3_cons (e3_var 0) (a3_cons e3_int a3_nil))) e3_int) (a3_cons (e3_op op_add3 ok_add e3_int (e3_callD D_law_drawS hr tk (a3_cons (e3_var 0) (a3_cons e3_int a3_nil)))) a3_nil)))))
theorem sc_law_spotS : FnScope ["_law_pot_here", "_law_x", "_law_poly_here", "_law_y"] ["_law_pot_here", "_law_x", "_law_poly_here"] (df_law_spotS).scope := ⟨rfl, rfl, rfl, by decide +kernel, rfl, by decide +kernel, by decide +kernel⟩
theorem w_law_spotS (F : Free mg) (SR : base.NoSeer) (TR : P.given.tree = none) (D_law_drawS : Def3 P w K mg base "_law_draw" ["_law_pot_here", "_law_many"] 37 fn_law_drawS) (D_law_plusS : Def3 P w K mg base "_law_plus" ["_law_one", "_law_other"] 38 fn_law_plusS) (D_law_worthS : Def3 P w K mg base "_law_worth" ["_law_poly_here", "_law_x"] 39 fn_law_worthS) (D_law_weightS : Def3 P w K mg base "_law_weight" ["_law_pot_here"] 38 fn_law_weightS) (D_law_numberS : Def3 P w K mg base "_law_number" ["_law_pot_here"] 38 fn_law_numberS) {f : Addr} {fd : FuncData} (Fd : FunD K (df_law_spotS).name (df_law_spotS).qual (df_law_spotS).params (df_law_spotS).body (df_law_spotS).scope ((df_law_spotS).dvs K) ((df_law_spotS).kws K) f fd) (hm : mg (df_law_spotS).name = some (.ref f)) :
    DefAt P w K mg base "_law_spot" ["_law_pot_here", "_law_x", "_law_poly_here"] 40 fn_law_spotS f fd := by
  have nd : (["_law_pot_here", "_law_x", "_law_poly_here", "_law_y"] : List Str).Nodup := sc_law_spotS.nd
  refine def3 (d := df_law_spotS) (k := 39) (m := 3) (n := 4) (t := d_law_spotS) Fd rfl hm sc_law_spotS rfl rfl (fun _ _ _ _ _ _ us hl => match us, hl with | [_, _, _], _ => rfl) (fun cdv A outer s H Ex W hr tk hp => ?_)
  have sr : Sr (cx3 P w K mg base ["_law_pot_here", "_law_x", "_law_poly_here", "_law_y"] (df_law_spotS).qual (df_law_spotS).scope f cdv A outer s H Ex) := ⟨SR, TR, _, _, rfl, rfl, rfl, rfl, rfl⟩
  have hu := hr.units
  have hu1 : (cx3 P w K mg base ["_law_pot_here", "_law_x", "_law_poly_here", "_law_y"] (df_law_spotS).qual (df_law_spotS).scope f cdv A outer s H Ex).A.units + 65 < cLine := by have := hr.un; omega
  exact (ss3_cons (s3_set 3 (e3_callD D_law_worthS hr tk (a3_cons (e3_var 2) (a3_cons (e3_var 1) a3_nil))) nd)
    (ss3_cons (s3_if (t3_cmp (op_eqD hu) ok_eq (e3_callD D_law_drawS hr tk (a3_cons (e3_var 0) (a3_cons e3_int a3_nil))) e3_int) (ss3_one (s3_set 3 (e3_callD D_law_plusS hr tk (a3_cons (e3_var 3) (a3_cons (e3_callD D_law_numberS hr tk (a3_cons (e3_var 0) a3_nil)) a3_nil))) nd)) ss3_nil)
    (ss3_one (s3_ret (e3_tup (a3_cons (e3_var 1) (a3_cons (e3_var 3) (a3_cons (e3_callD D_law_weightS hr tk (a3_cons (e3_var 0) a3_nil)) a3_nil))))))))
theorem sc_law_addedS : FnScope ["_law_pot_here", "_law_table", "_law_witness_here", "_law_bits", "_law_places", "_law_k", "_law_by", "_law_found", "_law_one"] ["_law_pot_here", "_law_table", "_law_witness_here"] (df_law_addedS).scope := ⟨rfl, rfl, rfl, by decide +kernel, rfl, by decide +kernel, by decide +kernel⟩
theorem w_law_addedS (F : Free mg) (SR : base.NoSeer) (TR : P.given.tree = none) (D_law_drawS : Def3 P w K mg base "_law_draw" ["_law_pot_here", "_law_many"] 37 fn_law_drawS) (D_law_plusS : Def3 P w K mg base "_law_plus" ["_law_one", "_law_other"] 38 fn_law_plusS) (D_law_timesS : Def3 P w K mg base "_law_times" ["_law_one", "_law_other"] 38 fn_law_timesS) (D_law_leversS : Def3 P w K mg base "_law_levers" ["_law_xs_here"] 39 fn_law_leversS) (D_law_numberS : Def3 P w K mg base "_law_number" ["_law_pot_here"] 38 fn_law_numberS) {f : Addr} {fd : FuncData} (Fd : FunD K (df_law_addedS).name (df_law_addedS).qual (df_law_addedS).params (df_law_addedS).body (df_law_addedS).scope ((df_law_addedS).dvs K) ((df_law_addedS).kws K) f fd) (hm : mg (df_law_addedS).name = some (.ref f)) :
    DefAt P w K mg base "_law_added" ["_law_pot_here", "_law_table", "_law_witness_here"] 40 fn_law_addedS f fd := by
  have nd : (["_law_pot_here", "_law_table", "_law_witness_here", "_law_bits", "_law_places", "_law_k", "_law_by", "_law_found", "_law_one"] : List Str).Nodup := sc_law_addedS.nd
  refine def3 (d := df_law_addedS) (k := 39) (m := 3) (n := 9) (t := d_law_addedS) Fd rfl hm sc_law_addedS rfl rfl (fun _ _ _ _ _ _ us hl => match us, hl with | [_, _, _], _ => rfl) (fun cdv A outer s H Ex W hr tk hp => ?_)
  have sr : Sr (cx3 P w K mg base ["_law_pot_here", "_law_table", "_law_witness_here", "_law_bits", "_law_places", "_law_k", "_law_by", "_law_found", "_law_one"] (df_law_addedS).qual (df_law_addedS).scope f cdv A outer s H Ex) := ⟨SR, TR, _, _, rfl, rfl, rfl, rfl, rfl⟩
  have hu := hr.units
  have hu1 : (cx3 P w K mg base ["_law_pot_here", "_law_table", "_law_witness_here", "_law_bits", "_law_places", "_law_k", "_law_by", "_law_found", "_law_one"] (df_law_addedS).qual (df_law_addedS).scope f cdv A outer s H Ex).A.units + 65 < cLine := by have := hr.un; omega
  exact (ss3_cons (s3_set 3 (e3_callD D_law_drawS hr tk (a3_cons (e3_var 0) (a3_cons (e3_op op_shl ok_shl e3_int (e3_blt call_len_seq ok_len F.len (a3_cons (e3_var 1) a3_nil))) a3_nil))) nd)
    (ss3_cons (s3_setLc 4 (own := [("_law_k", 5)]) rfl nd (i3_range1 F.range (a3_cons (e3_blt call_len_seq ok_len F.len (a3_cons (e3_var 1) a3_nil)) a3_nil)) (by kernel_rfl) (fun _ _ _ _ _ => (g3_name 5 nd)) (fun _ _ _ _ _ => (ts3_one (t3_cmp (op_eqD hu) ok_eq (e3_op op_and ok_band (e3_op op_shr ok_shr (e3_var 3) (e3_var 5)) e3_int) e3_int))) (fun _ _ _ _ _ => (e3_var 5)))
    (ss3_cons (s3_set 6 (e3_callD D_law_numberS hr tk (a3_cons (e3_var 0) a3_nil)) nd)
    (ss3_cons (s3_set 7 (e3_bty call_list_of ok_list F.list (a3_cons (e3_var 2) a3_nil)) nd)
    (ss3_cons (s3_if (t3_cmp op_gt ok_gt (e3_blt call_len_seq ok_len F.len (a3_cons (e3_var 4) a3_nil)) e3_int) (ss3_one (s3_for hp rfl (i3_zip F.zip (e3_var 4) (e3_callD D_law_leversS hr tk (a3_cons (e3_lc (own := [("_law_k", 5)]) rfl nd (i3_lt (e3_var 4)) (by kernel_rfl) (fun _ _ _ _ _ => (g3_name 5 nd)) (fun _ _ _ _ _ => ts3_nil) (fun _ _ _ _ _ => (e3_ix ix_seq ok_ix (e3_ix ix_seq ok_ix (e3_var 1) (e3_var 5)) e3_int))) a3_nil))) (g3_tup rfl (gs3_cons (g3_name 5 nd) (gs3_cons (g3_name 8 nd) gs3_nil))) (ss3_one (s3_asg (e3_callD D_law_plusS hr tk (a3_cons (e3_ix ix_seq ok_ix (e3_var 7) (e3_var 5)) (a3_cons (e3_callD D_law_timesS hr tk (a3_cons (e3_var 6) (a3_cons (e3_var 8) a3_nil))) a3_nil))) (g3_sub (e3_var 7) (e3_var 5)))))) ss3_nil)
    (ss3_one (s3_ret (e3_var 7))))))))
theorem sc_law_shortS : FnScope ["_law_table", "_law_witness_here", "_law_top", "_law_bottom", "_law_few", "_law_spot_here"] ["_law_table", "_law_witness_here"] (df_law_shortS).scope := ⟨rfl, rfl, rfl, by decide +kernel, rfl, by decide +kernel, by decide +kernel⟩
theorem w_law_shortS (F : Free mg) (SR : base.NoSeer) (TR : P.given.tree = none) (D_law_leversS : Def3 P w K mg base "_law_levers" ["_law_xs_here"] 39 fn_law_leversS) {f : Addr} {fd : FuncData} (Fd : FunD K (df_law_shortS).name (df_law_shortS).qual (df_law_shortS).params (df_law_shortS).body (df_law_shortS).scope ((df_law_shortS).dvs K) ((df_law_shortS).kws K) f fd) (hm : mg (df_law_shortS).name = some (.ref f)) :
    DefAt P w K mg base "_law_short" ["_law_table", "_law_witness_here"] 40 fn_law_shortS f fd := by
  have nd : (["_law_table", "_law_witness_here", "_law_top", "_law_bottom", "_law_few", "_law_spot_here"] : List Str).Nodup := sc_law_shortS.nd
  refine def3 (d := df_law_shortS) (k := 39) (m := 2) (n := 6) (t := d_law_shortS) Fd rfl hm sc_law_shortS rfl rfl (fun _ _ _ _ _ _ us hl => match us, hl with | [_, _], _ => rfl) (fun cdv A outer s H Ex W hr tk hp => ?_)
  have sr : Sr (cx3 P w K mg base ["_law_table", "_law_witness_here", "_law_top", "_law_bottom", "_law_few", "_law_spot_here"] (df_law_shortS).qual (df_law_shortS).scope f cdv A outer s H Ex) := ⟨SR, TR, _, _, rfl, rfl, rfl, rfl, rfl⟩
  have hu := hr.units
  have hu1 : (cx3 P w K mg base ["_law_table", "_law_witness_here", "_law_top", "_law_bottom", "_law_few", "_law_spot_here"] (df_law_shortS).qual (df_law_shortS).scope f cdv A outer s H Ex).A.units + 65 < cLine := by have := hr.un; omega
  exact (ss3_cons (s3_if (t3_val (e3_blt (cr_all rfl) ok_all F.all (a3_cons (e3_lc (own := [("_law_top", 2), ("_law_bottom", 3)]) rfl nd (i3_lt (e3_var 1)) (by kernel_rfl) (fun _ _ _ _ _ => (g3_tup rfl (gs3_cons (g3_name 2 nd) (gs3_cons (g3_name 3 nd) gs3_nil)))) (fun _ _ _ _ _ => ts3_nil) (fun _ _ _ _ _ => (e3_and (e3_cmp op_lt ok_lt (e3_blt call_abs ok_abs F.abs (a3_cons (e3_var 2) a3_nil)) (e3_op op_pow ok_pow e3_int e3_int)) (e3_one (e3_cmp op_lt ok_lt (e3_var 3) (e3_op op_pow ok_pow e3_int e3_int)))))) a3_nil))) (ss3_one (s3_ret (e3_var 1))) ss3_nil)
    (ss3_cons (s3_setLc 4 (own := [("_law_spot_here", 5)]) rfl nd (i3_lt (e3_slice (e3_var 0) o3_no (o3_so e3_int))) (by kernel_rfl) (fun _ _ _ _ _ => (g3_name 5 nd)) (fun _ _ _ _ _ => ts3_nil) (fun _ _ _ _ _ => (e3_ix ix_seq ok_ix (e3_var 5) e3_int)))
    (ss3_one (s3_ret (e3_op op_add3 ok_add (e3_callD D_law_leversS hr tk (a3_cons (e3_var 4) a3_nil)) (e3_op op_mul3 ok_mul (e3_lst (a3_cons (e3_tup (a3_cons e3_int (a3_cons e3_int a3_nil))) a3_nil)) (e3_op op_sub ok_sub (e3_blt call_len_seq ok_len F.len (a3_cons (e3_var 0) a3_nil)) (e3_blt call_len_seq ok_len F.len (a3_cons (e3_var 4) a3_nil)))))))))
theorem sc_law_witnessS : FnScope ["_law_pot_here", "_law_table", "_law_way", "_law_spot_here", "_law_found", "_law_at"] ["_law_pot_here", "_law_table"] (df_law_witnessS).scope := ⟨rfl, rfl, rfl, by decide +kernel, rfl, by decide +kernel, by decide +kernel⟩
theorem w_law_witnessS (F : Free mg) (SR : base.NoSeer) (TR : P.given.tree = none) (D_law_drawS : Def3 P w K mg base "_law_draw" ["_law_pot_here", "_law_many"] 37 fn_law_drawS) (D_law_plusS : Def3 P w K mg base "_law_plus" ["_law_one", "_law_other"] 38 fn_law_plusS) (D_law_numberS : Def3 P w K mg base "_law_number" ["_law_pot_here"] 38 fn_law_numberS) (D_law_addedS : Def3 P w K mg base "_law_added" ["_law_pot_here", "_law_table", "_law_witness_here"] 40 fn_law_addedS) (D_law_shortS : Def3 P w K mg base "_law_short" ["_law_table", "_law_witness_here"] 40 fn_law_shortS) {f : Addr} {fd : FuncData} (Fd : FunD K (df_law_witnessS).name (df_law_witnessS).qual (df_law_witnessS).params (df_law_witnessS).body (df_law_witnessS).scope ((df_law_witnessS).dvs K) ((df_law_witnessS).kws K) f fd) (hm : mg (df_law_witnessS).name = some (.ref f)) :
    DefAt P w K mg base "_law_witness" ["_law_pot_here", "_law_table"] 41 fn_law_witnessS f fd := by
  have nd : (["_law_pot_here", "_law_table", "_law_way", "_law_spot_here", "_law_found", "_law_at"] : List Str).Nodup := sc_law_witnessS.nd
  refine def3 (d := df_law_witnessS) (k := 40) (m := 2) (n := 6) (t := d_law_witnessS) Fd rfl hm sc_law_witnessS rfl rfl (fun _ _ _ _ _ _ us hl => match us, hl with | [_, _], _ => rfl) (fun cdv A outer s H Ex W hr tk hp => ?_)
  have sr : Sr (cx3 P w K mg base ["_law_pot_here", "_law_table", "_law_way", "_law_spot_here", "_law_found", "_law_at"] (df_law_witnessS).qual (df_law_witnessS).scope f cdv A outer s H Ex) := ⟨SR, TR, _, _, rfl, rfl, rfl, rfl, rfl⟩
  have hu := hr.units
  have hu1 : (cx3 P w K mg base ["_law_pot_here", "_law_table", "_law_way", "_law_spot_here", "_law_found", "_law_at"] (df_law_witnessS).qual (df_law_witnessS).scope f cdv A outer s H Ex).A.units + 65 < cLine := by have := hr.un; omega
  exact (ss3_cons (s3_set 2 (e3_callD D_law_drawS hr tk (a3_cons (e3_var 0) (a3_cons e3_int a3_nil))) nd)
    (ss3_cons (s3_if (t3_cmp (op_eqD hu) ok_eq (e3_var 2) e3_int) (ss3_one (s3_ret (e3_lc (own := [("_law_spot_here", 3)]) rfl nd (i3_lt (e3_var 1)) (by kernel_rfl) (fun _ _ _ _ _ => (g3_name 3 nd)) (fun _ _ _ _ _ => ts3_nil) (fun _ _ _ _ _ => (e3_callD D_law_numberS hr takes0 (a3_cons (e3_var 0) a3_nil)))))) ss3_nil)
    (ss3_cons (s3_set 4 (e3_callD D_law_addedS hr tk (a3_cons (e3_var 0) (a3_cons (e3_var 1) (a3_cons (e3_callD D_law_addedS hr tk (a3_cons (e3_var 0) (a3_cons (e3_var 1) (a3_cons (e3_op op_mul3 ok_mul (e3_lst (a3_cons (e3_tup (a3_cons e3_int (a3_cons e3_int a3_nil))) a3_nil)) (e3_blt call_len_seq ok_len F.len (a3_cons (e3_var 1) a3_nil))) a3_nil)))) a3_nil)))) nd)
    (ss3_cons (s3_if (t3_w (w3_and (t3_cmp (op_eqD hu) ok_eq (e3_var 2) e3_int) (w3_and1 (t3_cmp (op_neD hu) ok_ne (e3_var 1) (e3_lst a3_nil))))) (ss3_cons (s3_set 5 (e3_callD D_law_drawS hr tk (a3_cons (e3_var 0) (a3_cons (e3_blt call_len_seq ok_len F.len (a3_cons (e3_var 1) a3_nil)) a3_nil))) nd)
    (ss3_one (s3_asg (e3_callD D_law_plusS hr tk (a3_cons (e3_ix ix_seq ok_ix (e3_var 4) (e3_var 5)) (a3_cons (e3_callD D_law_numberS hr tk (a3_cons (e3_var 0) a3_nil)) a3_nil))) (g3_sub (e3_var 4) (e3_var 5))))) ss3_nil)
    (ss3_one (s3_ret (e3_callD D_law_shortS hr tk (a3_cons (e3_var 1) (a3_cons (e3_var 4) a3_nil)))))))))
theorem sc_law_sameS : FnScope ["_law_told", "_law_due"] ["_law_told", "_law_due"] (df_law_sameS).scope := ⟨rfl, rfl, rfl, by decide +kernel, rfl, by decide +kernel, by decide +kernel⟩
theorem w_law_sameS (F : Free mg) (SR : base.NoSeer) (TR : P.given.tree = none) {f : Addr} {fd : FuncData} (Fd : FunD K (df_law_sameS).name (df_law_sameS).qual (df_law_sameS).params (df_law_sameS).body (df_law_sameS).scope ((df_law_sameS).dvs K) ((df_law_sameS).kws K) f fd) (hm : mg (df_law_sameS).name = some (.ref f)) :
    DefAt P w K mg base "_law_same" ["_law_told", "_law_due"] 37 fn_law_sameS f fd := by
  have nd : (["_law_told", "_law_due"] : List Str).Nodup := sc_law_sameS.nd
  refine def3 (d := df_law_sameS) (k := 36) (m := 2) (n := 2) (t := d_law_sameS) Fd rfl hm sc_law_sameS rfl rfl (fun _ _ _ _ _ _ us hl => match us, hl with | [_, _], _ => rfl) (fun cdv A outer s H Ex W hr tk hp => ?_)
  have sr : Sr (cx3 P w K mg base ["_law_told", "_law_due"] (df_law_sameS).qual (df_law_sameS).scope f cdv A outer s H Ex) := ⟨SR, TR, _, _, rfl, rfl, rfl, rfl, rfl⟩
  have hu := hr.units
  have hu1 : (cx3 P w K mg base ["_law_told", "_law_due"] (df_law_sameS).qual (df_law_sameS).scope f cdv A outer s H Ex).A.units + 65 < cLine := by have := hr.un; omega
  exact (ss3_one (s3_ret (e3_and (e3_blt call_isi ok_isi F.isinstance (a3_cons (e3_var 0) (a3_cons (e3_ty F.bool) a3_nil))) (e3_one (e3_cmp (op_eqD hu) ok_eq (e3_var 0) (e3_var 1))))))
theorem sc_law : FnScope ["_law_script", "_law_k", "_law_pot_here", "_law_poly_here", "_law_table", "_law_x", "_law_sides", "_law_spot_here", "_law_witness_here", "_law_kept", "_law_turn", "_law_handed", "_law_found", "_law_n"] ["_law_script"] (df_law).scope := ⟨rfl, rfl, rfl, by decide +kernel, rfl, by decide +kernel, by decide +kernel⟩
theorem w_law (F : Free mg) (SR : base.NoSeer) (TR : P.given.tree = none) (D_keeps_sides : Def3 P w K mg base "keeps_sides" ["table", "sides", "poly"] 42 fn_keeps_sides) (D_cost : Def3 P w K mg base "cost" ["table", "sides", "witness"] 40 fn_cost) (D_is_witness : Def3 P w K mg base "is_witness" ["table", "n", "witness"] 41 fn_is_witness) (D_law_potS : Def3 P w K mg base "_law_pot" ["_law_script", "_law_k"] 37 fn_law_potS) (D_law_drawS : Def3 P w K mg base "_law_draw" ["_law_pot_here", "_law_many"] 37 fn_law_drawS) (D_law_xsS : Def3 P w K mg base "_law_xs" ["_law_pot_here", "_law_many"] 38 fn_law_xsS) (D_law_degreeS : Def3 P w K mg base "_law_degree" ["_law_pot_here"] 38 fn_law_degreeS) (D_law_polyS : Def3 P w K mg base "_law_poly" ["_law_pot_here", "_law_n"] 38 fn_law_polyS) (D_law_is_witnessS : Def3 P w K mg base "_law_is_witness" ["_law_table", "_law_n", "_law_witness_here"] 39 fn_law_is_witnessS) (D_law_costS : Def3 P w K mg base "_law_cost" ["_law_table", "_law_sides", "_law_witness_here"] 39 fn_law_costS) (D_law_keepsS : Def3 P w K mg base "_law_keeps" ["_law_table", "_law_sides", "_law_poly_here"] 40 fn_law_keepsS) (D_law_spotS : Def3 P w K mg base "_law_spot" ["_law_pot_here", "_law_x", "_law_poly_here"] 40 fn_law_spotS) (D_law_witnessS : Def3 P w K mg base "_law_witness" ["_law_pot_here", "_law_table"] 41 fn_law_witnessS) (D_law_sameS : Def3 P w K mg base "_law_same" ["_law_told", "_law_due"] 37 fn_law_sameS) {f : Addr} {fd : FuncData} (Fd : FunD K (df_law).name (df_law).qual (df_law).params (df_law).body (df_law).scope ((df_law).dvs K) ((df_law).kws K) f fd) (hm : mg (df_law).name = some (.ref f)) :
    TopOk P w K mg base f fd ["_law_script"] (emb K fn_law) := by
  have nd : (["_law_script", "_law_k", "_law_pot_here", "_law_poly_here", "_law_table", "_law_x", "_law_sides", "_law_spot_here", "_law_witness_here", "_law_kept", "_law_turn", "_law_handed", "_law_found", "_law_n"] : List Str).Nodup := sc_law.nd
  refine top3 (d := df_law) (k := 42) (m := 1) (n := 14) (t := d_law) Fd rfl sc_law rfl rfl ⟨rfl, by decide, by decide⟩ (fun cdv s H Ex W hr hg tk hp => ?_)
  have sr : Sr (cx3 P w K mg base ["_law_script", "_law_k", "_law_pot_here", "_law_poly_here", "_law_table", "_law_x", "_law_sides", "_law_spot_here", "_law_witness_here", "_law_kept", "_law_turn", "_law_handed", "_law_found", "_law_n"] (df_law).qual (df_law).scope f cdv callerA [] s H Ex) := ⟨SR, TR, _, _, rfl, rfl, rfl, rfl, rfl⟩
  have hu := hr.units
  have hu1 : (cx3 P w K mg base ["_law_script", "_law_k", "_law_pot_here", "_law_poly_here", "_law_table", "_law_x", "_law_sides", "_law_spot_here", "_law_witness_here", "_law_kept", "_law_turn", "_law_handed", "_law_found", "_law_n"] (df_law).qual (df_law).scope f cdv callerA [] s H Ex).A.units + 65 < cLine := by have := hr.un; omega
  exact (ss3_cons (s3_for hp rfl (i3_range1 F.range (a3_cons (e3_blt (call_max2 rfl) ok_max2 F.max (a3_cons e3_int (a3_cons (e3_blt (call_min2 rfl) ok_min2 F.min (a3_cons e3_int (a3_cons (e3_blt call_len_seq ok_len F.len (a3_cons (e3_var 0) a3_nil)) a3_nil))) a3_nil))) a3_nil)) (g3_name 1 nd) (ss3_cons (s3_set 2 (e3_callD D_law_potS hr tk (a3_cons (e3_var 0) (a3_cons (e3_var 1) a3_nil))) nd)
    (ss3_cons (s3_set 3 (e3_callD D_law_polyS hr tk (a3_cons (e3_var 2) (a3_cons (e3_callD D_law_degreeS hr tk (a3_cons (e3_var 2) a3_nil)) a3_nil))) nd)
    (ss3_cons (s3_setLc 4 (own := [("_law_x", 5)]) rfl nd (i3_lt (e3_callD D_law_xsS hr tk (a3_cons (e3_var 2) (a3_cons (e3_callD D_law_drawS hr tk (a3_cons (e3_var 2) (a3_cons e3_int a3_nil))) a3_nil)))) (by kernel_rfl) (fun _ _ _ _ _ => (g3_name 5 nd)) (fun _ _ _ _ _ => ts3_nil) (fun _ _ _ _ _ => (e3_callD D_law_spotS hr takes0 (a3_cons (e3_var 2) (a3_cons (e3_var 5) (a3_cons (e3_var 3) a3_nil))))))
    (ss3_cons (s3_setLc 6 (own := [("_law_spot_here", 7)]) rfl nd (i3_lt (e3_var 4)) (by kernel_rfl) (fun _ _ _ _ _ => (g3_name 7 nd)) (fun _ _ _ _ _ => ts3_nil) (fun _ _ _ _ _ => (e3_op op_sub ok_sub (e3_callD D_law_drawS hr takes0 (a3_cons (e3_var 2) (a3_cons e3_int a3_nil))) e3_int)))
    (ss3_cons (s3_set 8 (e3_callD D_law_witnessS hr tk (a3_cons (e3_var 2) (a3_cons (e3_var 4) a3_nil))) nd)
    (ss3_cons (s3_set 9 (e3_blt (call_repr3 hg (by omega)) ok_repr F.repr (a3_cons (e3_lst (a3_cons (e3_var 4) (a3_cons (e3_var 6) (a3_cons (e3_var 8) a3_nil)))) a3_nil)) nd)
    (ss3_cons (s3_for hp rfl (i3_range1 F.range (a3_cons e3_int a3_nil)) (g3_name 10 nd) (ss3_cons (s3_if (t3_not (t3_val (e3_callD D_law_sameS hr tk (a3_cons (e3_callD D_keeps_sides hr tk (a3_cons (e3_var 4) (a3_cons (e3_var 6) (a3_cons (e3_var 3) a3_nil)))) (a3_cons (e3_callD D_law_keepsS hr tk (a3_cons (e3_var 4) (a3_cons (e3_var 6) (a3_cons (e3_var 3) a3_nil)))) a3_nil))))) (ss3_one (s3_ret e3_bl)) ss3_nil)
    (ss3_cons (s3_set 11 (e3_lst (a3_cons (e3_bty call_list_of ok_list F.list (a3_cons (e3_var 4) a3_nil)) (a3_cons (e3_bty call_list_of ok_list F.list (a3_cons (e3_var 6) a3_nil)) (a3_cons (e3_bty call_list_of ok_list F.list (a3_cons (e3_var 8) a3_nil)) a3_nil)))) nd)
    (ss3_cons (s3_set 12 (e3_callD D_cost hr tk (a3_cons (e3_ix ix_seq ok_ix (e3_var 11) e3_int) (a3_cons (e3_ix ix_seq ok_ix (e3_var 11) e3_int) (a3_cons (e3_ix ix_seq ok_ix (e3_var 11) e3_int) a3_nil)))) nd)
    (ss3_cons (s3_if (t3_w (w3_or (t3_cmp (op_neD hu) ok_ne (e3_var 12) (e3_callD D_law_costS hr tk (a3_cons (e3_var 4) (a3_cons (e3_var 6) (a3_cons (e3_var 8) a3_nil))))) (w3_or1 (t3_cmp op_ne ok_neS (e3_blt (call_repr3 hg (by omega)) ok_repr F.repr (a3_cons (e3_var 11) a3_nil)) (e3_var 9))))) (ss3_one (s3_ret e3_bl)) ss3_nil)
    (ss3_one (s3_for hp rfl (i3_range1 F.range (a3_cons e3_int a3_nil)) (g3_name 13 nd) (ss3_one (s3_if (t3_not (t3_val (e3_callD D_law_sameS hr tk (a3_cons (e3_callD D_is_witness hr tk (a3_cons (e3_var 4) (a3_cons (e3_var 13) (a3_cons (e3_var 8) a3_nil)))) (a3_cons (e3_callD D_law_is_witnessS hr tk (a3_cons (e3_var 4) (a3_cons (e3_var 13) (a3_cons (e3_var 8) a3_nil)))) a3_nil))))) (ss3_one (s3_ret e3_bl)) ss3_nil)))))))))
    (ss3_one (s3_if (t3_cmp op_ne ok_neS (e3_blt (call_repr3 hg (by omega)) ok_repr F.repr (a3_cons (e3_lst (a3_cons (e3_var 4) (a3_cons (e3_var 6) (a3_cons (e3_var 8) a3_nil)))) a3_nil)) (e3_var 9)) (ss3_one (s3_ret e3_bl)) ss3_nil))))))))))
    (ss3_one (s3_ret e3_bl)))
end
theorem factsD {P : Program} {w : World} {K : PySem.W.Frag} {h : Heap} {mg : Str → Option Value} {f : Addr} (X : K.In h) (G : h.Ns mainGlobals mg) (hfa : mg ("law" : Str) = some (.ref f)) (c : He.SaysD fasD fnsD K) (cx : exD K = true) (TR : P.given.tree = none) :
    ∃ fd : FuncData, (∀ (s : Shared) (v : Value), BindsTo s fd ⟨[v], []⟩ [("_law_script", v)]) ∧ ∀ base : Heap, K.In base → base.Ns mainGlobals mg → base.NoSeer → TopOk P w K mg base f fd ["_law_script"] (emb K fn_law) := by
  have F : Free mg := free_of X G c (fun f hf => List.mem_append_right _ hf)
  obtain ⟨fd_divisor, Fd_divisor⟩ := c.def_ 0 (d := df_divisor) rfl
  have g_divisor : mg "divisor" = some (.ref (He.fAd K ("divisor", none))) := He.glo_ok X G (c.fact 0 (f := .glo "divisor") rfl)
  obtain ⟨fd_fraction, Fd_fraction⟩ := c.def_ 1 (d := df_fraction) rfl
  have g_fraction : mg "fraction" = some (.ref (He.fAd K ("fraction", none))) := He.glo_ok X G (c.fact 1 (f := .glo "fraction") rfl)
  obtain ⟨fd_plus, Fd_plus⟩ := c.def_ 2 (d := df_plus) rfl
  have g_plus : mg "plus" = some (.ref (He.fAd K ("plus", none))) := He.glo_ok X G (c.fact 2 (f := .glo "plus") rfl)
  obtain ⟨fd_times, Fd_times⟩ := c.def_ 3 (d := df_times) rfl
  have g_times : mg "times" = some (.ref (He.fAd K ("times", none))) := He.glo_ok X G (c.fact 3 (f := .glo "times") rfl)
  obtain ⟨fd_over, Fd_over⟩ := c.def_ 4 (d := df_over) rfl
  have g_over : mg "over" = some (.ref (He.fAd K ("over", none))) := He.glo_ok X G (c.fact 4 (f := .glo "over") rfl)
  obtain ⟨fd_sign, Fd_sign⟩ := c.def_ 5 (d := df_sign) rfl
  have g_sign : mg "sign" = some (.ref (He.fAd K ("sign", none))) := He.glo_ok X G (c.fact 5 (f := .glo "sign") rfl)
  obtain ⟨fd_is_below, Fd_is_below⟩ := c.def_ 6 (d := df_is_below) rfl
  have g_is_below : mg "is_below" = some (.ref (He.fAd K ("is_below", none))) := He.glo_ok X G (c.fact 6 (f := .glo "is_below") rfl)
  obtain ⟨fd_bare, Fd_bare⟩ := c.def_ 7 (d := df_bare) rfl
  have g_bare : mg "bare" = some (.ref (He.fAd K ("bare", none))) := He.glo_ok X G (c.fact 7 (f := .glo "bare") rfl)
  obtain ⟨fd_added, Fd_added⟩ := c.def_ 8 (d := df_added) rfl
  have g_added : mg "added" = some (.ref (He.fAd K ("added", none))) := He.glo_ok X G (c.fact 8 (f := .glo "added") rfl)
  obtain ⟨fd_worth, Fd_worth⟩ := c.def_ 9 (d := df_worth) rfl
  have g_worth : mg "worth" = some (.ref (He.fAd K ("worth", none))) := He.glo_ok X G (c.fact 9 (f := .glo "worth") rfl)
  obtain ⟨fd_keeps_side, Fd_keeps_side⟩ := c.def_ 10 (d := df_keeps_side) rfl
  have g_keeps_side : mg "keeps_side" = some (.ref (He.fAd K ("keeps_side", none))) := He.glo_ok X G (c.fact 10 (f := .glo "keeps_side") rfl)
  obtain ⟨fd_keeps_sides, Fd_keeps_sides⟩ := c.def_ 11 (d := df_keeps_sides) rfl
  have g_keeps_sides : mg "keeps_sides" = some (.ref (He.fAd K ("keeps_sides", none))) := He.glo_ok X G (c.fact 11 (f := .glo "keeps_sides") rfl)
  obtain ⟨fd_cost, Fd_cost⟩ := c.def_ 12 (d := df_cost) rfl
  have g_cost : mg "cost" = some (.ref (He.fAd K ("cost", none))) := He.glo_ok X G (c.fact 12 (f := .glo "cost") rfl)
  obtain ⟨fd_is_witness, Fd_is_witness⟩ := c.def_ 13 (d := df_is_witness) rfl
  have g_is_witness : mg "is_witness" = some (.ref (He.fAd K ("is_witness", none))) := He.glo_ok X G (c.fact 13 (f := .glo "is_witness") rfl)
  obtain ⟨fd_law_potS, Fd_law_potS⟩ := c.def_ 14 (d := df_law_potS) rfl
  have g_law_potS : mg "_law_pot" = some (.ref (He.fAd K ("_law_pot", none))) := He.glo_ok X G (c.fact 14 (f := .glo "_law_pot") rfl)
  obtain ⟨fd_law_drawS, Fd_law_drawS⟩ := c.def_ 15 (d := df_law_drawS) rfl
  have g_law_drawS : mg "_law_draw" = some (.ref (He.fAd K ("_law_draw", none))) := He.glo_ok X G (c.fact 15 (f := .glo "_law_draw") rfl)
  obtain ⟨fd_law_fracS, Fd_law_fracS⟩ := c.def_ 16 (d := df_law_fracS) rfl
  have g_law_fracS : mg "_law_frac" = some (.ref (He.fAd K ("_law_frac", none))) := He.glo_ok X G (c.fact 16 (f := .glo "_law_frac") rfl)
  obtain ⟨fd_law_plusS, Fd_law_plusS⟩ := c.def_ 17 (d := df_law_plusS) rfl
  have g_law_plusS : mg "_law_plus" = some (.ref (He.fAd K ("_law_plus", none))) := He.glo_ok X G (c.fact 17 (f := .glo "_law_plus") rfl)
  obtain ⟨fd_law_lessS, Fd_law_lessS⟩ := c.def_ 18 (d := df_law_lessS) rfl
  have g_law_lessS : mg "_law_less" = some (.ref (He.fAd K ("_law_less", none))) := He.glo_ok X G (c.fact 18 (f := .glo "_law_less") rfl)
  obtain ⟨fd_law_timesS, Fd_law_timesS⟩ := c.def_ 19 (d := df_law_timesS) rfl
  have g_law_timesS : mg "_law_times" = some (.ref (He.fAd K ("_law_times", none))) := He.glo_ok X G (c.fact 19 (f := .glo "_law_times") rfl)
  obtain ⟨fd_law_overS, Fd_law_overS⟩ := c.def_ 20 (d := df_law_overS) rfl
  have g_law_overS : mg "_law_over" = some (.ref (He.fAd K ("_law_over", none))) := He.glo_ok X G (c.fact 20 (f := .glo "_law_over") rfl)
  obtain ⟨fd_law_aheadS, Fd_law_aheadS⟩ := c.def_ 21 (d := df_law_aheadS) rfl
  have g_law_aheadS : mg "_law_ahead" = some (.ref (He.fAd K ("_law_ahead", none))) := He.glo_ok X G (c.fact 21 (f := .glo "_law_ahead") rfl)
  obtain ⟨fd_law_worthS, Fd_law_worthS⟩ := c.def_ 22 (d := df_law_worthS) rfl
  have g_law_worthS : mg "_law_worth" = some (.ref (He.fAd K ("_law_worth", none))) := He.glo_ok X G (c.fact 22 (f := .glo "_law_worth") rfl)
  obtain ⟨fd_law_xsS, Fd_law_xsS⟩ := c.def_ 23 (d := df_law_xsS) rfl
  have g_law_xsS : mg "_law_xs" = some (.ref (He.fAd K ("_law_xs", none))) := He.glo_ok X G (c.fact 23 (f := .glo "_law_xs") rfl)
  obtain ⟨fd_law_degreeS, Fd_law_degreeS⟩ := c.def_ 24 (d := df_law_degreeS) rfl
  have g_law_degreeS : mg "_law_degree" = some (.ref (He.fAd K ("_law_degree", none))) := He.glo_ok X G (c.fact 24 (f := .glo "_law_degree") rfl)
  obtain ⟨fd_law_weightS, Fd_law_weightS⟩ := c.def_ 25 (d := df_law_weightS) rfl
  have g_law_weightS : mg "_law_weight" = some (.ref (He.fAd K ("_law_weight", none))) := He.glo_ok X G (c.fact 25 (f := .glo "_law_weight") rfl)
  obtain ⟨fd_law_polyS, Fd_law_polyS⟩ := c.def_ 26 (d := df_law_polyS) rfl
  have g_law_polyS : mg "_law_poly" = some (.ref (He.fAd K ("_law_poly", none))) := He.glo_ok X G (c.fact 26 (f := .glo "_law_poly") rfl)
  obtain ⟨fd_law_is_witnessS, Fd_law_is_witnessS⟩ := c.def_ 27 (d := df_law_is_witnessS) rfl
  have g_law_is_witnessS : mg "_law_is_witness" = some (.ref (He.fAd K ("_law_is_witness", none))) := He.glo_ok X G (c.fact 27 (f := .glo "_law_is_witness") rfl)
  obtain ⟨fd_law_costS, Fd_law_costS⟩ := c.def_ 28 (d := df_law_costS) rfl
  have g_law_costS : mg "_law_cost" = some (.ref (He.fAd K ("_law_cost", none))) := He.glo_ok X G (c.fact 28 (f := .glo "_law_cost") rfl)
  obtain ⟨fd_law_keepsS, Fd_law_keepsS⟩ := c.def_ 29 (d := df_law_keepsS) rfl
  have g_law_keepsS : mg "_law_keeps" = some (.ref (He.fAd K ("_law_keeps", none))) := He.glo_ok X G (c.fact 29 (f := .glo "_law_keeps") rfl)
  obtain ⟨fd_law_leversS, Fd_law_leversS⟩ := c.def_ 30 (d := df_law_leversS) rfl
  have g_law_leversS : mg "_law_levers" = some (.ref (He.fAd K ("_law_levers", none))) := He.glo_ok X G (c.fact 30 (f := .glo "_law_levers") rfl)
  obtain ⟨fd_law_numberS, Fd_law_numberS⟩ := c.def_ 31 (d := df_law_numberS) rfl
  have g_law_numberS : mg "_law_number" = some (.ref (He.fAd K ("_law_number", none))) := He.glo_ok X G (c.fact 31 (f := .glo "_law_number") rfl)
  obtain ⟨fd_law_spotS, Fd_law_spotS⟩ := c.def_ 32 (d := df_law_spotS) rfl
  have g_law_spotS : mg "_law_spot" = some (.ref (He.fAd K ("_law_spot", none))) := He.glo_ok X G (c.fact 32 (f := .glo "_law_spot") rfl)
  obtain ⟨fd_law_addedS, Fd_law_addedS⟩ := c.def_ 33 (d := df_law_addedS) rfl
  have g_law_addedS : mg "_law_added" = some (.ref (He.fAd K ("_law_added", none))) := He.glo_ok X G (c.fact 33 (f := .glo "_law_added") rfl)
  obtain ⟨fd_law_shortS, Fd_law_shortS⟩ := c.def_ 34 (d := df_law_shortS) rfl
  have g_law_shortS : mg "_law_short" = some (.ref (He.fAd K ("_law_short", none))) := He.glo_ok X G (c.fact 34 (f := .glo "_law_short") rfl)
  obtain ⟨fd_law_witnessS, Fd_law_witnessS⟩ := c.def_ 35 (d := df_law_witnessS) rfl
  have g_law_witnessS : mg "_law_witness" = some (.ref (He.fAd K ("_law_witness", none))) := He.glo_ok X G (c.fact 35 (f := .glo "_law_witness") rfl)
  obtain ⟨fd_law_sameS, Fd_law_sameS⟩ := c.def_ 36 (d := df_law_sameS) rfl
  have g_law_sameS : mg "_law_same" = some (.ref (He.fAd K ("_law_same", none))) := He.glo_ok X G (c.fact 36 (f := .glo "_law_same") rfl)
  obtain ⟨fd_law, Fd_law⟩ := c.def_ 37 (d := df_law) rfl
  have g_law : mg "law" = some (.ref (He.fAd K ("law", none))) := He.glo_ok X G (c.fact 37 (f := .glo "law") rfl)
  have C_NOT_GREATER : Cst K mg "NOT_GREATER" k_NOT_GREATER := cst_int (He.int_ok X G (c.fact 38 (f := .int "NOT_GREATER" (-1)) rfl))
  have C_NOT_LESS : Cst K mg "NOT_LESS" k_NOT_LESS := cst_int (He.int_ok X G (c.fact 39 (f := .int "NOT_LESS" 1) rfl))
  have C_NOUGHT_fractions : Cst K mg "NOUGHT_fractions" k_NOUGHT_fractions := cst_tup (He.glo_ok X G (c.fact 40 (f := .glo "NOUGHT_fractions") rfl)) (ex_NOUGHT_fractions cx) rfl
  have C_NOUGHT_sides : Cst K mg "NOUGHT_sides" k_NOUGHT_sides := cst_tup (He.glo_ok X G (c.fact 41 (f := .glo "NOUGHT_sides") rfl)) (ex_NOUGHT_sides cx) rfl
  cases hfa.symm.trans g_law
  have b := FunD.bindsA (ps := ["_law_script"]) Fd_law fun _ _ _ _ _ _ us hl => match us, hl with | [_], _ => rfl
  refine ⟨fd_law, fun s v => b s [v] rfl, fun base _ _ SR => ?_⟩
  have D_divisor : Def3 P w K mg base "divisor" _ _ fn_divisor := ⟨_, _, w_divisor (P := P) (w := w) (base := base) F SR TR Fd_divisor g_divisor⟩
  have D_fraction : Def3 P w K mg base "fraction" _ _ fn_fraction := ⟨_, _, w_fraction (P := P) (w := w) (base := base) F SR TR D_divisor Fd_fraction g_fraction⟩
  have D_plus : Def3 P w K mg base "plus" _ _ fn_plus := ⟨_, _, w_plus (P := P) (w := w) (base := base) F SR TR D_fraction Fd_plus g_plus⟩
  have D_times : Def3 P w K mg base "times" _ _ fn_times := ⟨_, _, w_times (P := P) (w := w) (base := base) F SR TR D_fraction Fd_times g_times⟩
  have D_over : Def3 P w K mg base "over" _ _ fn_over := ⟨_, _, w_over (P := P) (w := w) (base := base) F SR TR D_fraction Fd_over g_over⟩
  have D_sign : Def3 P w K mg base "sign" _ _ fn_sign := ⟨_, _, w_sign (P := P) (w := w) (base := base) F SR TR Fd_sign g_sign⟩
  have D_is_below : Def3 P w K mg base "is_below" _ _ fn_is_below := ⟨_, _, w_is_below (P := P) (w := w) (base := base) F SR TR Fd_is_below g_is_below⟩
  have D_bare : Def3 P w K mg base "bare" _ _ fn_bare := ⟨_, _, w_bare (P := P) (w := w) (base := base) F SR TR Fd_bare g_bare⟩
  have D_added : Def3 P w K mg base "added" _ _ fn_added := ⟨_, _, w_added (P := P) (w := w) (base := base) F SR TR C_NOUGHT_fractions D_plus Fd_added g_added⟩
  have D_worth : Def3 P w K mg base "worth" _ _ fn_worth := ⟨_, _, w_worth (P := P) (w := w) (base := base) F SR TR C_NOUGHT_fractions D_plus D_times Fd_worth g_worth⟩
  have D_keeps_side : Def3 P w K mg base "keeps_side" _ _ fn_keeps_side := ⟨_, _, w_keeps_side (P := P) (w := w) (base := base) F SR TR C_NOT_GREATER C_NOT_LESS D_is_below D_worth Fd_keeps_side g_keeps_side⟩
  have D_keeps_sides : Def3 P w K mg base "keeps_sides" _ _ fn_keeps_sides := ⟨_, _, w_keeps_sides (P := P) (w := w) (base := base) F SR TR D_keeps_side Fd_keeps_sides g_keeps_sides⟩
  have D_cost : Def3 P w K mg base "cost" _ _ fn_cost := ⟨_, _, w_cost (P := P) (w := w) (base := base) F SR TR C_NOUGHT_sides D_plus D_over D_sign D_bare Fd_cost g_cost⟩
  have D_is_witness : Def3 P w K mg base "is_witness" _ _ fn_is_witness := ⟨_, _, w_is_witness (P := P) (w := w) (base := base) F SR TR C_NOUGHT_sides D_times D_added Fd_is_witness g_is_witness⟩
  have D_law_potS : Def3 P w K mg base "_law_pot" _ _ fn_law_potS := ⟨_, _, w_law_potS (P := P) (w := w) (base := base) F SR TR Fd_law_potS g_law_potS⟩
  have D_law_drawS : Def3 P w K mg base "_law_draw" _ _ fn_law_drawS := ⟨_, _, w_law_drawS (P := P) (w := w) (base := base) F SR TR Fd_law_drawS g_law_drawS⟩
  have D_law_fracS : Def3 P w K mg base "_law_frac" _ _ fn_law_fracS := ⟨_, _, w_law_fracS (P := P) (w := w) (base := base) F SR TR Fd_law_fracS g_law_fracS⟩
  have D_law_plusS : Def3 P w K mg base "_law_plus" _ _ fn_law_plusS := ⟨_, _, w_law_plusS (P := P) (w := w) (base := base) F SR TR D_law_fracS Fd_law_plusS g_law_plusS⟩
  have D_law_lessS : Def3 P w K mg base "_law_less" _ _ fn_law_lessS := ⟨_, _, w_law_lessS (P := P) (w := w) (base := base) F SR TR D_law_fracS Fd_law_lessS g_law_lessS⟩
  have D_law_timesS : Def3 P w K mg base "_law_times" _ _ fn_law_timesS := ⟨_, _, w_law_timesS (P := P) (w := w) (base := base) F SR TR D_law_fracS Fd_law_timesS g_law_timesS⟩
  have D_law_overS : Def3 P w K mg base "_law_over" _ _ fn_law_overS := ⟨_, _, w_law_overS (P := P) (w := w) (base := base) F SR TR D_law_fracS Fd_law_overS g_law_overS⟩
  have D_law_aheadS : Def3 P w K mg base "_law_ahead" _ _ fn_law_aheadS := ⟨_, _, w_law_aheadS (P := P) (w := w) (base := base) F SR TR Fd_law_aheadS g_law_aheadS⟩
  have D_law_worthS : Def3 P w K mg base "_law_worth" _ _ fn_law_worthS := ⟨_, _, w_law_worthS (P := P) (w := w) (base := base) F SR TR D_law_plusS D_law_timesS Fd_law_worthS g_law_worthS⟩
  have D_law_xsS : Def3 P w K mg base "_law_xs" _ _ fn_law_xsS := ⟨_, _, w_law_xsS (P := P) (w := w) (base := base) F SR TR D_law_drawS D_law_fracS Fd_law_xsS g_law_xsS⟩
  have D_law_degreeS : Def3 P w K mg base "_law_degree" _ _ fn_law_degreeS := ⟨_, _, w_law_degreeS (P := P) (w := w) (base := base) F SR TR D_law_drawS Fd_law_degreeS g_law_degreeS⟩
  have D_law_weightS : Def3 P w K mg base "_law_weight" _ _ fn_law_weightS := ⟨_, _, w_law_weightS (P := P) (w := w) (base := base) F SR TR D_law_drawS D_law_fracS Fd_law_weightS g_law_weightS⟩
  have D_law_polyS : Def3 P w K mg base "_law_poly" _ _ fn_law_polyS := ⟨_, _, w_law_polyS (P := P) (w := w) (base := base) F SR TR D_law_drawS Fd_law_polyS g_law_polyS⟩
  have D_law_is_witnessS : Def3 P w K mg base "_law_is_witness" _ _ fn_law_is_witnessS := ⟨_, _, w_law_is_witnessS (P := P) (w := w) (base := base) F SR TR D_law_plusS D_law_timesS Fd_law_is_witnessS g_law_is_witnessS⟩
  have D_law_costS : Def3 P w K mg base "_law_cost" _ _ fn_law_costS := ⟨_, _, w_law_costS (P := P) (w := w) (base := base) F SR TR D_law_plusS D_law_overS Fd_law_costS g_law_costS⟩
  have D_law_keepsS : Def3 P w K mg base "_law_keeps" _ _ fn_law_keepsS := ⟨_, _, w_law_keepsS (P := P) (w := w) (base := base) F SR TR D_law_aheadS D_law_worthS Fd_law_keepsS g_law_keepsS⟩
  have D_law_leversS : Def3 P w K mg base "_law_levers" _ _ fn_law_leversS := ⟨_, _, w_law_leversS (P := P) (w := w) (base := base) F SR TR D_law_lessS D_law_timesS D_law_overS Fd_law_leversS g_law_leversS⟩
  have D_law_numberS : Def3 P w K mg base "_law_number" _ _ fn_law_numberS := ⟨_, _, w_law_numberS (P := P) (w := w) (base := base) F SR TR D_law_drawS D_law_fracS Fd_law_numberS g_law_numberS⟩
  have D_law_spotS : Def3 P w K mg base "_law_spot" _ _ fn_law_spotS := ⟨_, _, w_law_spotS (P := P) (w := w) (base := base) F SR TR D_law_drawS D_law_plusS D_law_worthS D_law_weightS D_law_numberS Fd_law_spotS g_law_spotS⟩
  have D_law_addedS : Def3 P w K mg base "_law_added" _ _ fn_law_addedS := ⟨_, _, w_law_addedS (P := P) (w := w) (base := base) F SR TR D_law_drawS D_law_plusS D_law_timesS D_law_leversS D_law_numberS Fd_law_addedS g_law_addedS⟩
  have D_law_shortS : Def3 P w K mg base "_law_short" _ _ fn_law_shortS := ⟨_, _, w_law_shortS (P := P) (w := w) (base := base) F SR TR D_law_leversS Fd_law_shortS g_law_shortS⟩
  have D_law_witnessS : Def3 P w K mg base "_law_witness" _ _ fn_law_witnessS := ⟨_, _, w_law_witnessS (P := P) (w := w) (base := base) F SR TR D_law_drawS D_law_plusS D_law_numberS D_law_addedS D_law_shortS Fd_law_witnessS g_law_witnessS⟩
  have D_law_sameS : Def3 P w K mg base "_law_same" _ _ fn_law_sameS := ⟨_, _, w_law_sameS (P := P) (w := w) (base := base) F SR TR Fd_law_sameS g_law_sameS⟩
  exact (w_law (P := P) (w := w) (base := base) F SR TR D_keeps_sides D_cost D_is_witness D_law_potS D_law_drawS D_law_xsS D_law_degreeS D_law_polyS D_law_is_witnessS D_law_costS D_law_keepsS D_law_spotS D_law_witnessS D_law_sameS Fd_law g_law)
theorem lawD (hl : ∀ ns : List Int, ns.length ≤ 63 → ∃ L, fn_law [.rol (ns.map D.int)] [] = .val (.bl true) L) : PySem.Challenge.rw_evenerror_k51_sides_and_witnesses.Holds := by
  w_on; o_law
  refine HandSHeadRun.head_any (r := RowR) (q := PySem.W.view RowR.prog [45]) (H := hkD) (ob := obD) (M := 8000) (loose := looseD) (d := HandSHeadRun.topDef RowR.prog 45) (kwd := []) obD_eq (by kernel_rfl) (fun s => by kernel_rfl) runD (by kernel_rfl) (by kernel_rfl) (by kernel_rfl) (by rfl) (by first | assumption | decide +kernel) (by decide +kernel) ⟨rfl, rfl, rfl, rfl, rfl, by decide +kernel⟩ ?hw ?hc
  case hw => w_witness2
  case hc =>
    refine law_walk5 (lw := PySem.Challenge.rw_evenerror_k51_sides_and_witnesses) (n := 63) (x := "_law_script") (fn := fn_law) rfl (by decide) (by kernel_rfl) (by kernel_rfl) ?F hl
    intro w mg fa h Y Gn hmg0
    obtain ⟨K, KX, c⟩ := Y
    have hmg : mg ("law" : Str) = some (.ref fa) := by
      have e : (HandSHeadRun.topDef RowR.prog 45).name = ("law" : Str) := by kernel_rfl
      rw [← e]
      exact hmg0
    obtain ⟨fd, hb, hF⟩ := factsD (P := PySem.Challenge.rw_evenerror_k51_sides_and_witnesses.prog) (w := w) KX Gn hmg c.t.d c.more (by kernel_rfl)
    exact ⟨K, fd, KX, hb, hF⟩

end G
set_option maxRecDepth 100000 in
set_option maxHeartbeats 0 in
theorem PySem.Challenge.cw_evenerror_k51_sides_and_witnesses_holds : PySem.Challenge.rw_evenerror_k51_sides_and_witnesses.Holds :=
  G.lawD G.fn_law_eq
