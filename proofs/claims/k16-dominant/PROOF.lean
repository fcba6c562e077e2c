import PyProof.Rows.All
import Wide.All
import OpenK.AllK
import Wide.FinOn
import HandS.ForMost
import HandS.ForExc
import HandS.Evl
import HandS.Wide
import HandS.IsInst
import HandS.Style
import HandS.CallSlots
import HandS.Small
import HandS.Walk
import HandS.Defaults
import HandS.ExcIs
import HandS.TryOnly
import HandS.Dict
import HandS.TupAny
import HandS.Text
import PyProof.ReprRoads
import PyProof.ReprLen
import PySem.Challenge.RW_rivalprices_k16_dominant_equations_have
set_option Elab.async false
set_option linter.all false
set_option maxRecDepth 100000
set_option maxHeartbeats 1000000
/-! MB1: data D, what a value stands for (Dat), owned objects (Own), environments (EnvOk). -/
namespace MR
open PySem L2

/-- the errors of the program, by class -/
inductive Err where
  | ratio | singular | market | unknown | dup | merger | command | line (n : Int)
  deriving DecidableEq

inductive D where
  | non | bl (b : Bool) | int (i : Int) | str (s : Str)
  | tup (ds : List D) | lst (ds : List D)
  | dK (kvs : List (Key × D)) | dT (kvs : List (List Key × D))
  | ins (c : Nat) (fs : List (Str × D))
  | scr (ns : List Int)
  deriving Inhabited

def Err.tag : Err → Nat
  | .ratio => 0 | .singular => 1 | .market => 2 | .unknown => 3 | .dup => 4 | .merger => 5 | .command => 6 | .line _ => 7
/-- where the classes stand -/
structure Cl where
  cA : Nat → Addr
  eA : Nat → Addr

inductive Mode where | x | d | o | w | e (a : Addr)
  deriving DecidableEq

abbrev Ex (H H' : Hp) : Prop := Evl.Ex H H'

mutual
inductive Dat (K : PySem.W.Frag) (G : Cl) (S : Hp) : V → D → Prop
  | non : Dat K G S .non .non
  | bl (b : Bool) : Dat K G S (.bl b) (.bl b)
  | int (i : Int) : Dat K G S (.int i) (.int i)
  | str (x : Str) : Dat K G S (.str x) (.str x)
  | tup {a : Addr} {vs : List V} {ds : List D} : SqT K S a vs → DatL K G S vs ds → Dat K G S (.ref a) (.tup ds)
  | lst {a : Addr} {vs : List V} {ds : List D} : S a = some (.lst vs) → DatL K G S vs ds → Dat K G S (.ref a) (.lst ds)
  | scr {a : Addr} {ns : List Int} : SqL K S a (ns.map V.int) → Dat K G S (.ref a) (.scr ns)
  | dK {a : Addr} {ks : List Key} {vs : List V} {ds : List D} : S a = some (.dK (ks.zip vs)) → ks.length = vs.length → DatL K G S vs ds → Dat K G S (.ref a) (.dK (ks.zip ds))
  | dT {a : Addr} {ks : List (List Key)} {vs : List V} {ds : List D} : S a = some (.dT (ks.zip vs)) → ks.length = vs.length → DatL K G S vs ds → Dat K G S (.ref a) (.dT (ks.zip ds))
  | ins {a dx : Addr} {c : Nat} {ks : List Str} {vs : List V} {ds : List D} : S a = some (.ins (G.cA c) dx (ks.zip vs)) → ks.length = vs.length → DatL K G S vs ds → Dat K G S (.ref a) (.ins c (ks.zip ds))
inductive DatL (K : PySem.W.Frag) (G : Cl) (S : Hp) : List V → List D → Prop
  | nil : DatL K G S [] []
  | cons {v : V} {d : D} {vs : List V} {ds : List D} : Dat K G S v d → DatL K G S vs ds → DatL K G S (v :: vs) (d :: ds)
end

mutual
inductive Own (K : PySem.W.Frag) (G : Cl) (S H : Hp) : Addr → D → List Addr → Prop
  | lst {p : Addr} {vs : List V} {ds : List D} {fp : List Addr} : H p = some (.lst vs) → OwnL K G S H vs ds fp → Own K G S H p (.lst ds) (p :: fp)
  | dK {p : Addr} {ks : List Key} {vs : List V} {ds : List D} {fp : List Addr} : H p = some (.dK (ks.zip vs)) → ks.length = vs.length → OwnL K G S H vs ds fp → Own K G S H p (.dK (ks.zip ds)) (p :: fp)
  | dT {p : Addr} {ks : List (List Key)} {vs : List V} {ds : List D} {fp : List Addr} : H p = some (.dT (ks.zip vs)) → ks.length = vs.length → OwnL K G S H vs ds fp → Own K G S H p (.dT (ks.zip ds)) (p :: fp)
  | ins {p dx : Addr} {c : Nat} {ks : List Str} {vs : List V} {ds : List D} {fp : List Addr} : H p = some (.ins (G.cA c) dx (ks.zip vs)) → ks.length = vs.length → OwnL K G S H vs ds fp → Own K G S H p (.ins c (ks.zip ds)) (p :: fp)
inductive OwnL (K : PySem.W.Frag) (G : Cl) (S H : Hp) : List V → List D → List Addr → Prop
  | nil : OwnL K G S H [] [] []
  | dat {v : V} {d : D} {vs : List V} {ds : List D} {fp : List Addr} : Dat K G S v d → OwnL K G S H vs ds fp → OwnL K G S H (v :: vs) (d :: ds) fp
  | own {p : Addr} {d : D} {vs : List V} {ds : List D} {f1 f2 : List Addr} : Own K G S H p d f1 → OwnL K G S H vs ds f2 → OwnL K G S H (.ref p :: vs) (d :: ds) (f1 ++ f2)
end

section
variable {K : PySem.W.Frag} {G : Cl} {F S S' H H' : Hp}
mutual
theorem Dat.mono (e : Ex S S') : ∀ {v : V} {d : D}, Dat K G S v d → Dat K G S' v d
  | _, _, .non => .non
  | _, _, .bl b => .bl b
  | _, _, .int i => .int i
  | _, _, .str x => .str x
  | _, _, .tup h1 h2 => .tup (Evl.ex_t e h1) (DatL.mono e h2)
  | _, _, .lst h1 h2 => .lst (e _ _ h1) (DatL.mono e h2)
  | _, _, .scr h1 => .scr (Evl.ex_l e h1)
  | _, _, .dK h1 h2 h3 => .dK (e _ _ h1) h2 (DatL.mono e h3)
  | _, _, .dT h1 h2 h3 => .dT (e _ _ h1) h2 (DatL.mono e h3)
  | _, _, .ins h1 h2 h3 => .ins (e _ _ h1) h2 (DatL.mono e h3)
theorem DatL.mono (e : Ex S S') : ∀ {vs : List V} {ds : List D}, DatL K G S vs ds → DatL K G S' vs ds
  | _, _, .nil => .nil
  | _, _, .cons h t => .cons (Dat.mono e h) (DatL.mono e t)
end
mutual
theorem Own.mono (e : Ex S S') : ∀ {p : Addr} {d : D} {fp : List Addr}, Own K G S H p d fp → (∀ a ∈ fp, H' a = H a) → Own K G S' H' p d fp
  | _, _, _, .lst h1 h2, k => .lst ((k _ List.mem_cons_self).trans h1) (OwnL.mono e h2 fun a ha => k a (List.mem_cons_of_mem _ ha))
  | _, _, _, .dK h1 h2 h3, k => .dK ((k _ List.mem_cons_self).trans h1) h2 (OwnL.mono e h3 fun a ha => k a (List.mem_cons_of_mem _ ha))
  | _, _, _, .dT h1 h2 h3, k => .dT ((k _ List.mem_cons_self).trans h1) h2 (OwnL.mono e h3 fun a ha => k a (List.mem_cons_of_mem _ ha))
  | _, _, _, .ins h1 h2 h3, k => .ins ((k _ List.mem_cons_self).trans h1) h2 (OwnL.mono e h3 fun a ha => k a (List.mem_cons_of_mem _ ha))
theorem OwnL.mono (e : Ex S S') : ∀ {vs : List V} {ds : List D} {fp : List Addr}, OwnL K G S H vs ds fp → (∀ a ∈ fp, H' a = H a) → OwnL K G S' H' vs ds fp
  | _, _, _, .nil, _ => .nil
  | _, _, _, .dat h t, k => .dat (Dat.mono e h) (OwnL.mono e t k)
  | _, _, _, .own h t, k => .own (Own.mono e h fun a ha => k a (List.mem_append_left _ ha)) (OwnL.mono e t fun a ha => k a (List.mem_append_right _ ha))
end
mutual
theorem Own.frz (e : Ex S S') : ∀ {p : Addr} {d : D} {fp : List Addr}, Own K G S H p d fp → (∀ a ∈ fp, S' a = H a) → Dat K G S' (.ref p) d
  | _, _, _, .lst h1 h2, k => .lst ((k _ List.mem_cons_self).trans h1) (OwnL.frz e h2 fun a ha => k a (List.mem_cons_of_mem _ ha))
  | _, _, _, .dK h1 h2 h3, k => .dK ((k _ List.mem_cons_self).trans h1) h2 (OwnL.frz e h3 fun a ha => k a (List.mem_cons_of_mem _ ha))
  | _, _, _, .dT h1 h2 h3, k => .dT ((k _ List.mem_cons_self).trans h1) h2 (OwnL.frz e h3 fun a ha => k a (List.mem_cons_of_mem _ ha))
  | _, _, _, .ins h1 h2 h3, k => .ins ((k _ List.mem_cons_self).trans h1) h2 (OwnL.frz e h3 fun a ha => k a (List.mem_cons_of_mem _ ha))
theorem OwnL.frz (e : Ex S S') : ∀ {vs : List V} {ds : List D} {fp : List Addr}, OwnL K G S H vs ds fp → (∀ a ∈ fp, S' a = H a) → DatL K G S' vs ds
  | _, _, _, .nil, _ => .nil
  | _, _, _, .dat h t, k => .cons (Dat.mono e h) (OwnL.frz e t k)
  | _, _, _, .own h t, k => .cons (Own.frz e h fun a ha => k a (List.mem_append_left _ ha)) (OwnL.frz e t fun a ha => k a (List.mem_append_right _ ha))
end
mutual
theorem Own.there : ∀ {p : Addr} {d : D} {fp : List Addr}, Own K G S H p d fp → ∀ a ∈ fp, ∃ o, H a = some o
  | _, _, _, .lst h1 h2, a, ha => by
    rcases List.mem_cons.mp ha with rfl | ha
    · exact ⟨_, h1⟩
    · exact OwnL.there h2 a ha
  | _, _, _, .dK h1 _ h2, a, ha => by
    rcases List.mem_cons.mp ha with rfl | ha
    · exact ⟨_, h1⟩
    · exact OwnL.there h2 a ha
  | _, _, _, .dT h1 _ h2, a, ha => by
    rcases List.mem_cons.mp ha with rfl | ha
    · exact ⟨_, h1⟩
    · exact OwnL.there h2 a ha
  | _, _, _, .ins h1 _ h2, a, ha => by
    rcases List.mem_cons.mp ha with rfl | ha
    · exact ⟨_, h1⟩
    · exact OwnL.there h2 a ha
theorem OwnL.there : ∀ {vs : List V} {ds : List D} {fp : List Addr}, OwnL K G S H vs ds fp → ∀ a ∈ fp, ∃ o, H a = some o
  | _, _, _, .nil, a, ha => by cases ha
  | _, _, _, .dat _ t, a, ha => OwnL.there t a ha
  | _, _, _, .own h t, a, ha => by
    rcases List.mem_append.mp ha with ha | ha
    · exact Own.there h a ha
    · exact OwnL.there t a ha
end
theorem DatL.ownL : ∀ {vs : List V} {ds : List D}, DatL K G S vs ds → OwnL K G S H vs ds []
  | _, _, .nil => .nil
  | _, _, .cons h t => .dat h (DatL.ownL t)
theorem DatL.length : ∀ {vs : List V} {ds : List D}, DatL K G S vs ds → vs.length = ds.length
  | _, _, .nil => rfl
  | _, _, .cons _ t => by simp [DatL.length t]
theorem OwnL.length : ∀ {vs : List V} {ds : List D} {fp : List Addr}, OwnL K G S H vs ds fp → vs.length = ds.length
  | _, _, _, .nil => rfl
  | _, _, _, .dat _ t => by simp [OwnL.length t]
  | _, _, _, .own _ t => by simp [OwnL.length t]
theorem DatL.append : ∀ {vs ws : List V} {ds es : List D}, DatL K G S vs ds → DatL K G S ws es → DatL K G S (vs ++ ws) (ds ++ es)
  | _, _, _, _, .nil, h => h
  | _, _, _, _, .cons h t, q => .cons h (DatL.append t q)
theorem DatL.get : ∀ {vs : List V} {ds : List D} {i : Nat} {d : D}, DatL K G S vs ds → ds[i]? = some d → ∃ v, vs[i]? = some v ∧ Dat K G S v d
  | _, _, i, _, .nil, e => by simp at e
  | _, _, 0, _, .cons h _, e => by
    simp only [List.getElem?_cons_zero, Option.some.injEq] at e
    subst e
    exact ⟨_, rfl, h⟩
  | _, _, i + 1, _, .cons _ t, e => by
    rw [List.getElem?_cons_succ] at e
    obtain ⟨v, h1, h2⟩ := DatL.get t e
    exact ⟨v, by rw [List.getElem?_cons_succ]; exact h1, h2⟩
theorem DatL.getV : ∀ {vs : List V} {ds : List D} {i : Nat} {v : V}, DatL K G S vs ds → vs[i]? = some v → ∃ d, ds[i]? = some d ∧ Dat K G S v d
  | _, _, i, _, .nil, e => by simp at e
  | _, _, 0, _, .cons h _, e => by
    simp only [List.getElem?_cons_zero, Option.some.injEq] at e
    subst e
    exact ⟨_, rfl, h⟩
  | _, _, i + 1, _, .cons _ t, e => by
    rw [List.getElem?_cons_succ] at e
    obtain ⟨v, h1, h2⟩ := DatL.getV t e
    exact ⟨v, by rw [List.getElem?_cons_succ]; exact h1, h2⟩
theorem DatL.drop : ∀ {vs : List V} {ds : List D} (n : Nat), DatL K G S vs ds → DatL K G S (vs.drop n) (ds.drop n)
  | _, _, 0, h => h
  | _, _, _ + 1, .nil => .nil
  | _, _, n + 1, .cons _ t => DatL.drop n t
theorem DatL.take : ∀ {vs : List V} {ds : List D} (n : Nat), DatL K G S vs ds → DatL K G S (vs.take n) (ds.take n)
  | _, _, 0, _ => .nil
  | _, _, _ + 1, .nil => .nil
  | _, _, n + 1, .cons h t => .cons h (DatL.take n t)
theorem DatL.set {v : V} {d : D} (h : Dat K G S v d) : ∀ {vs : List V} {ds : List D} (n : Nat), DatL K G S vs ds → DatL K G S (vs.set n v) (ds.set n d)
  | _, _, _, .nil => .nil
  | _, _, 0, .cons _ t => .cons h t
  | _, _, n + 1, .cons q t => .cons q (DatL.set h n t)
theorem OwnL.snoc {v : V} {d : D} (h : Dat K G S v d) : ∀ {vs : List V} {ds : List D} {fp : List Addr}, OwnL K G S H vs ds fp → OwnL K G S H (vs ++ [v]) (ds ++ [d]) fp
  | _, _, _, .nil => .dat h .nil
  | _, _, _, .dat q t => .dat q (OwnL.snoc h t)
  | _, _, _, .own q t => .own q (OwnL.snoc h t)

/-! ### slots and environments -/
def SlotOk (K : PySem.W.Frag) (G : Cl) (S H : Hp) : Mode → Option (Option V) → D → List Addr → Prop
  | .x, _, _, fp => fp = []
  | .d, sv, d, fp => fp = [] ∧ ∃ v, sv = some (some v) ∧ Dat K G S v d
  | .o, sv, d, fp => ∃ p, sv = some (some (.ref p)) ∧ Own K G S H p d fp ∧ fp = [p]
  | .w, sv, d, fp => ∃ p, sv = some (some (.ref p)) ∧ Own K G S H p d fp
  | .e a, sv, _, fp => fp = [] ∧ sv = some (some (.ref a))
structure Foot (F S : Hp) (fp : Nat → List Addr) : Prop where
  free : ∀ i a, a ∈ fp i → S a = none ∧ F a = none
  apart : ∀ i j a, a ∈ fp i → a ∈ fp j → i = j
  nodup : ∀ i, (fp i).Nodup
structure EnvOk (K : PySem.W.Frag) (G : Cl) (F S H : Hp) (μ : List Mode) (σ : L2.St) (ρ : List D) : Prop where
  sh : Ex S H
  fk : ∀ a o, F a = some o → H a = some o ∧ S a = none
  ls : σ.length = μ.length
  lr : ρ.length = μ.length
  sl : ∃ fp : Nat → List Addr, Foot F S fp ∧ (∀ i, μ.length ≤ i → fp i = []) ∧ ∀ i m, μ[i]? = some m → SlotOk K G S H m (σ[i]?) (ρ.getD i .non) (fp i)

theorem SlotOk.mono {m : Mode} {sv : Option (Option V)} {d : D} {fp : List Addr} (e : Ex S S') (h : SlotOk K G S H m sv d fp) (k : ∀ a ∈ fp, H' a = H a) : SlotOk K G S' H' m sv d fp := by
  cases m with
  | x => exact h
  | d => exact ⟨h.1, let ⟨v, a, b⟩ := h.2; ⟨v, a, b.mono e⟩⟩
  | o => exact let ⟨p, a, b, c⟩ := h; ⟨p, a, b.mono e k, c⟩
  | w => exact let ⟨p, a, b⟩ := h; ⟨p, a, b.mono e k⟩
  | e _ => exact h
theorem SlotOk.there {m : Mode} {sv : Option (Option V)} {d : D} {fp : List Addr} (h : SlotOk K G S H m sv d fp) : ∀ a ∈ fp, ∃ o, H a = some o := by
  cases m with
  | x => intro a ha; rw [show fp = [] from h] at ha; cases ha
  | d => intro a ha; rw [h.1] at ha; cases ha
  | o => exact let ⟨p, a, b, _⟩ := h; b.there
  | w => exact let ⟨p, a, b⟩ := h; b.there
  | e _ => intro a ha; rw [h.1] at ha; cases ha

variable {μ : List Mode} {σ : L2.St} {ρ : List D} {r : Mode} {v : V} {d : D}
/-- the heap and the stable part grow; nothing foreign or owned becomes stable -/
theorem EnvOk.grow (h : EnvOk K G F S H μ σ ρ) (e1 : Ex S S') (e2 : Ex S' H') (e3 : Ex H H') (k : ∀ a o, H a = some o → S a = none → S' a = none) : EnvOk K G F S' H' μ σ ρ := by
  obtain ⟨sh, fk, ls, lr, fp, ⟨f1, f2, f3⟩, f4, sl⟩ := h
  have th : ∀ i a, a ∈ fp i → ∃ o, H a = some o := fun i a ha => by
    cases q : μ[i]? with
    | none =>
      rw [f4 i (List.getElem?_eq_none_iff.mp q)] at ha
      cases ha
    | some m => exact (sl i m q).there a ha
  refine ⟨e2, fun a o q => ?_, ls, lr, fp, ⟨fun i a ha => ?_, f2, f3⟩, f4, fun i m q => (sl i m q).mono e1 fun a ha => ?_⟩
  · obtain ⟨q1, q2⟩ := fk a o q
    exact ⟨e3 _ _ q1, k a o q1 q2⟩
  · obtain ⟨o, ho⟩ := th i a ha
    obtain ⟨q1, q2⟩ := f1 i a ha
    exact ⟨k a o ho q1, q2⟩
  · obtain ⟨o, ho⟩ := th i a ha
    rw [ho]
    exact e3 _ _ ho
/-- only the heap grows -/
theorem EnvOk.growH (h : EnvOk K G F S H μ σ ρ) (e : Ex H H') : EnvOk K G F S H' μ σ ρ := h.grow (Evl.Ex.refl S) (h.sh.trans e) e fun _ _ _ q => q
theorem EnvOk.tail {s : Option V} (h : EnvOk K G F S H (r :: μ) (s :: σ) (d :: ρ)) : EnvOk K G F S H μ σ ρ := by
  obtain ⟨sh, fk, ls, lr, fp, ⟨f1, f2, f3⟩, f4, sl⟩ := h
  refine ⟨sh, fk, by simpa using ls, by simpa using lr, fun i => fp (i + 1), ⟨fun i a ha => f1 _ a ha, fun i j a ha hb => by have := f2 _ _ a ha hb; omega, fun i => f3 _⟩, fun i hi => f4 _ (by simp; omega), fun i m q => ?_⟩
  have := sl (i + 1) m (by simpa using q)
  simpa using this
theorem EnvOk.head (h : EnvOk K G F S H (.d :: μ) (some v :: σ) (d :: ρ)) : Dat K G S v d := by
  obtain ⟨sh, fk, ls, lr, fp, _, f4, sl⟩ := h
  obtain ⟨_, w, e, q⟩ := sl 0 .d rfl
  simp only [List.getElem?_cons_zero, Option.some.injEq] at e
  subst e
  exact q
theorem EnvOk.push (h : EnvOk K G F S H μ σ ρ) (q : Dat K G S v d) : EnvOk K G F S H (.d :: μ) (some v :: σ) (d :: ρ) := by
  obtain ⟨sh, fk, ls, lr, fp, ⟨f1, f2, f3⟩, f4, sl⟩ := h
  refine ⟨sh, fk, by simpa using ls, by simpa using lr, fun i => match i with | 0 => [] | i + 1 => fp i, ⟨?_, ?_, ?_⟩, ?_, ?_⟩
  · intro i a ha
    cases i with
    | zero => cases ha
    | succ i => exact f1 i a ha
  · intro i j a ha hb
    cases i with
    | zero => cases ha
    | succ i =>
      cases j with
      | zero => cases hb
      | succ j => exact congrArg (· + 1) (f2 i j a ha hb)
  · intro i
    cases i with
    | zero => exact List.nodup_nil
    | succ i => exact f3 i
  · intro i hi
    cases i with
    | zero => simp at hi
    | succ i => exact f4 i (by simpa using hi)
  · intro i m e
    cases i with
    | zero =>
      simp only [List.getElem?_cons_zero, Option.some.injEq] at e
      subst e
      exact ⟨rfl, v, rfl, q⟩
    | succ i =>
      have := sl i m (by simpa using e)
      simpa using this
/-- what the footprints hold is there -/
theorem EnvOk.fps (h : EnvOk K G F S H μ σ ρ) : ∃ fp : Nat → List Addr, Foot F S fp ∧ (∀ i, μ.length ≤ i → fp i = []) ∧ (∀ i m, μ[i]? = some m → SlotOk K G S H m (σ[i]?) (ρ.getD i .non) (fp i)) ∧ ∀ i a, a ∈ fp i → ∃ o, H a = some o := by
  obtain ⟨fp, f, f4, sl⟩ := h.sl
  refine ⟨fp, f, f4, sl, fun i a ha => ?_⟩
  cases q : μ[i]? with
  | none =>
    rw [f4 i (List.getElem?_eq_none_iff.mp q)] at ha
    cases ha
  | some m => exact (sl i m q).there a ha
theorem ex_none {H H' : Hp} {p : Addr} (e : Ex H H') (h : H' p = none) : H p = none := Evl.fresh_back e h
theorem EnvOk.freshF (h : EnvOk K G F S H μ σ ρ) {p : Addr} (hp : H p = none) : F p = none := by
  cases e : F p with
  | none => rfl
  | some u => rw [(h.fk _ _ e).1] at hp; cases hp
/-- a new object that is owned -/
theorem EnvOk.pushO {p : Addr} {o : HO} (h : EnvOk K G F S H μ σ ρ) (hp : H p = none) (q : Own K G S (upd H p o) p d [p]) : EnvOk K G F S (upd H p o) (.o :: μ) (some (.ref p) :: σ) (d :: ρ) := by
  have hS : S p = none := ex_none h.sh hp
  have hF : F p = none := h.freshF hp
  obtain ⟨fp, ⟨f1, f2, f3⟩, f4, sl, th⟩ := h.fps
  have np : ∀ i, p ∉ fp i := fun i hi => by
    obtain ⟨o', e⟩ := th i p hi
    rw [hp] at e
    cases e
  have e2 : Ex H (upd H p o) := Evl.Ex.new hp
  refine ⟨h.sh.trans e2, fun a u q => ⟨e2 _ _ (h.fk a u q).1, (h.fk a u q).2⟩, by simp [h.ls], by simp [h.lr], fun i => match i with | 0 => [p] | i + 1 => fp i, ⟨?_, ?_, ?_⟩, ?_, ?_⟩
  · intro i a ha
    cases i with
    | zero =>
      rw [List.mem_singleton.mp ha]
      exact ⟨hS, hF⟩
    | succ i => exact f1 i a ha
  · intro i j a ha hb
    cases i with
    | zero =>
      cases j with
      | zero => rfl
      | succ j =>
        rw [List.mem_singleton.mp ha] at hb
        exact absurd hb (np j)
    | succ i =>
      cases j with
      | zero =>
        rw [List.mem_singleton.mp hb] at ha
        exact absurd ha (np i)
      | succ j => exact congrArg (· + 1) (f2 i j a ha hb)
  · intro i
    cases i with
    | zero => exact List.nodup_cons.mpr ⟨by simp, List.nodup_nil⟩
    | succ i => exact f3 i
  · intro i hi
    cases i with
    | zero => simp at hi
    | succ i => exact f4 i (by simpa using hi)
  · intro i m e
    cases i with
    | zero =>
      simp only [List.getElem?_cons_zero, Option.some.injEq] at e
      subst e
      exact ⟨p, rfl, q, rfl⟩
    | succ i =>
      have z := (sl i m (by simpa using e)).mono (S' := S) (H' := upd H p o) (Evl.Ex.refl S) fun a ha => upd_ne fun w => np i (w ▸ ha)
      simpa using z
/-- what stands in slot 0 is stored in slot i -/
theorem EnvOk.store {s : Option V} {i : Nat} (h : EnvOk K G F S H (r :: μ) (s :: σ) (d :: ρ)) (hi : i < μ.length) : EnvOk K G F S H (μ.set i r) (σ.set i s) (ρ.set i d) := by
  obtain ⟨sh, fk, ls, lr, fp, ⟨f1, f2, f3⟩, f4, sl⟩ := h
  simp only [List.length_cons, Nat.add_right_cancel_iff] at ls lr
  refine ⟨sh, fk, by simp [ls], by simp [lr], fun j => if j = i then fp 0 else fp (j + 1), ⟨?_, ?_, ?_⟩, ?_, ?_⟩
  · intro j a ha
    split at ha <;> exact f1 _ a ha
  · intro j k a ha hb
    by_cases h1 : j = i
    · by_cases h2 : k = i
      · omega
      · simp only [h1, if_true, h2, if_false] at ha hb
        have := f2 _ _ a ha hb
        omega
    · by_cases h2 : k = i
      · simp only [h1, if_false, h2, if_true] at ha hb
        have := f2 _ _ a ha hb
        omega
      · simp only [h1, if_false, h2, if_false] at ha hb
        have := f2 _ _ a ha hb
        omega
  · intro j
    show (if j = i then fp 0 else fp (j + 1)).Nodup
    split <;> exact f3 _
  · intro j hj
    rw [List.length_set] at hj
    show (if j = i then fp 0 else fp (j + 1)) = []
    rw [if_neg (by omega)]
    exact f4 _ (by simp; omega)
  · intro j m e
    by_cases h1 : j = i
    · subst h1
      rw [List.getElem?_set_self hi] at e
      cases e
      simp only [if_true]
      have z := sl 0 r rfl
      simp only [List.getElem?_cons_zero, List.getD_cons_zero] at z
      rw [List.getElem?_set_self (by omega)]
      have : (ρ.set j d).getD j .non = d := by simp [List.getD, List.getElem?_set_self (show j < ρ.length by omega)]
      rw [this]
      exact z
    · rw [List.getElem?_set_ne (Ne.symm h1)] at e
      show SlotOk K G S H m _ _ (if j = i then fp 0 else fp (j + 1))
      rw [if_neg h1, List.getElem?_set_ne (Ne.symm h1)]
      have : (ρ.set i d).getD j .non = ρ.getD j .non := by simp [List.getD, List.getElem?_set_ne (Ne.symm h1)]
      rw [this]
      have z := sl (j + 1) m (by simpa using e)
      simpa using z
/-- slots are forgotten -/
def ModeLe : Mode → Mode → Bool
  | .x, _ => true
  | .d, .d => true
  | .o, .o => true
  | .w, .w => true
  | .e a, .e b => decide (a = b)
  | _, _ => false
def ModesLe : List Mode → List Mode → Bool
  | [], [] => true
  | a :: as, b :: bs => ModeLe a b && ModesLe as bs
  | _, _ => false
theorem modesLe_len : ∀ {μ ν : List Mode}, ModesLe μ ν = true → μ.length = ν.length
  | [], [], _ => rfl
  | _ :: _, _ :: _, h => by
    simp only [ModesLe, Bool.and_eq_true] at h
    simp [modesLe_len h.2]
theorem modesLe_get : ∀ {μ ν : List Mode} {i : Nat} {m : Mode}, ModesLe μ ν = true → μ[i]? = some m → ∃ n, ν[i]? = some n ∧ ModeLe m n = true
  | [], [], _, _, _, e => by simp at e
  | a :: as, b :: bs, 0, m, h, e => by
    simp only [ModesLe, Bool.and_eq_true] at h
    simp only [List.getElem?_cons_zero, Option.some.injEq] at e
    subst e
    exact ⟨b, rfl, h.1⟩
  | a :: as, b :: bs, i + 1, m, h, e => by
    simp only [ModesLe, Bool.and_eq_true] at h
    rw [List.getElem?_cons_succ] at e ⊢
    exact modesLe_get h.2 e
/-- the data of the slots that are kept -/
def keep : List Mode → List D → List D
  | .x :: ms, _ :: ds => .non :: keep ms ds
  | _ :: ms, d :: ds => d :: keep ms ds
  | _, _ => []
theorem keep_len : ∀ {μ : List Mode} {ρ : List D}, ρ.length = μ.length → (keep μ ρ).length = μ.length
  | [], [], _ => rfl
  | m :: ms, d :: ds, h => by
    have := keep_len (μ := ms) (ρ := ds) (by simpa using h)
    cases m <;> simp [keep, this]
  | [], _ :: _, h => by simp at h
  | _ :: _, [], h => by simp at h
theorem keep_get : ∀ {μ : List Mode} {ρ : List D} {i : Nat} {m : Mode}, ρ.length = μ.length → μ[i]? = some m → m ≠ .x → (keep μ ρ).getD i .non = ρ.getD i .non
  | m :: ms, d :: ds, 0, m', h, e, n => by
    simp only [List.getElem?_cons_zero, Option.some.injEq] at e
    subst e
    cases m <;> simp_all [keep]
  | m :: ms, d :: ds, i + 1, m', h, e, n => by
    have := keep_get (μ := ms) (ρ := ds) (i := i) (m := m') (by simpa using h) (by simpa using e) n
    cases m <;> simpa [keep] using this
  | [], _, _, _, _, e, _ => by simp at e
  | _ :: _, [], _, _, h, _, _ => by simp at h
theorem EnvOk.weak {ν : List Mode} (h : EnvOk K G F S H ν σ ρ) (w : ModesLe μ ν = true) : EnvOk K G F S H μ σ (keep μ ρ) := by
  obtain ⟨sh, fk, ls, lr, fp, ⟨f1, f2, f3⟩, f4, sl⟩ := h
  have hl := modesLe_len w
  refine ⟨sh, fk, ls.trans hl.symm, keep_len (lr.trans hl.symm), fun i => if μ[i]? = some .x then [] else fp i, ⟨?_, ?_, ?_⟩, ?_, ?_⟩
  · intro i a ha
    split at ha
    · cases ha
    · exact f1 i a ha
  · intro i j a ha hb
    split at ha
    · cases ha
    · split at hb
      · cases hb
      · exact f2 i j a ha hb
  · intro i
    show (if μ[i]? = some .x then [] else fp i).Nodup
    split
    · exact List.nodup_nil
    · exact f3 i
  · intro i hi
    show (if μ[i]? = some .x then [] else fp i) = []
    split
    · rfl
    · exact f4 i (by omega)
  · intro i m e
    obtain ⟨n, en, le⟩ := modesLe_get w e
    have z := sl i n en
    cases m with
    | x =>
      show (if μ[i]? = some .x then [] else fp i) = []
      rw [if_pos e]
    | d =>
      have : n = .d := by cases n <;> simp_all [ModeLe]
      subst this
      rw [keep_get (lr.trans hl.symm) e (by simp)]
      show SlotOk K G S H _ _ _ (if μ[i]? = some .x then [] else fp i)
      rw [if_neg (by rw [e]; simp)]
      exact z
    | w =>
      have : n = .w := by cases n <;> simp_all [ModeLe]
      subst this
      rw [keep_get (lr.trans hl.symm) e (by simp)]
      show SlotOk K G S H _ _ _ (if μ[i]? = some .x then [] else fp i)
      rw [if_neg (by rw [e]; simp)]
      exact z
    | e a =>
      have : n = .e a := by cases n <;> simp_all [ModeLe]
      subst this
      rw [keep_get (lr.trans hl.symm) e (by simp)]
      show SlotOk K G S H _ _ _ (if μ[i]? = some .x then [] else fp i)
      rw [if_neg (by rw [e]; simp)]
      exact z
    | o =>
      have : n = .o := by cases n <;> simp_all [ModeLe]
      subst this
      rw [keep_get (lr.trans hl.symm) e (by simp)]
      show SlotOk K G S H _ _ _ (if μ[i]? = some .x then [] else fp i)
      rw [if_neg (by rw [e]; simp)]
      exact z
/-- an owned slot is frozen -/
theorem EnvOk.frz {i : Nat} (h : EnvOk K G F S H μ σ ρ) (hm : μ[i]? = some .o ∨ μ[i]? = some .w) : ∃ S', Ex S S' ∧ EnvOk K G F S' H (μ.set i .d) σ ρ := by
  obtain ⟨sh, fk, ls, lr, fp, ⟨f1, f2, f3⟩, f4, sl⟩ := h
  obtain ⟨p, hp, ow⟩ : ∃ p, σ[i]? = some (some (.ref p)) ∧ Own K G S H p (ρ.getD i .non) (fp i) := by
    rcases hm with hm | hm
    · exact let ⟨p, a, b, _⟩ := sl i .o hm; ⟨p, a, b⟩
    · exact sl i .w hm
  have hi : i < μ.length := by
    rcases hm with hm | hm
    · exact (List.getElem?_eq_some_iff.mp hm).1
    · exact (List.getElem?_eq_some_iff.mp hm).1
  have e1 : Ex S (fun a => if a ∈ fp i then H a else S a) := fun a o e => by
    show (if a ∈ fp i then H a else S a) = some o
    split
    · exact sh _ _ e
    · exact e
  refine ⟨fun a => if a ∈ fp i then H a else S a, e1, fun a o e => ?_, fun a o e => ⟨(fk a o e).1, ?_⟩, by simp [ls], by simp [lr], fun j => if j = i then [] else fp j, ⟨?_, ?_, ?_⟩, ?_, ?_⟩
  · have e' : (if a ∈ fp i then H a else S a) = some o := e
    split at e'
    · exact e'
    · exact sh _ _ e'
  · show (if a ∈ fp i then H a else S a) = none
    rw [if_neg]
    · exact (fk a o e).2
    · intro ha
      rw [(f1 i a ha).2] at e
      cases e
  · intro j a ha
    by_cases h1 : j = i
    · rw [if_pos h1] at ha
      cases ha
    · rw [if_neg h1] at ha
      refine ⟨?_, (f1 j a ha).2⟩
      show (if a ∈ fp i then H a else S a) = none
      rw [if_neg fun hb => h1 (f2 _ _ a ha hb)]
      exact (f1 j a ha).1
  · intro j k a ha hb
    by_cases h1 : j = i
    · rw [if_pos h1] at ha
      cases ha
    · by_cases h2 : k = i
      · rw [if_pos h2] at hb
        cases hb
      · rw [if_neg h1] at ha
        rw [if_neg h2] at hb
        exact f2 _ _ a ha hb
  · intro j
    show (if j = i then [] else fp j).Nodup
    split
    · exact List.nodup_nil
    · exact f3 j
  · intro j hj
    show (if j = i then [] else fp j) = []
    split
    · rfl
    · exact f4 j (by simpa using hj)
  · intro j m e
    by_cases h1 : j = i
    · subst h1
      rw [List.getElem?_set_self hi] at e
      cases e
      refine ⟨if_pos rfl, _, hp, ow.frz e1 fun a ha => ?_⟩
      show (if a ∈ fp j then H a else S a) = H a
      rw [if_pos ha]
    · rw [List.getElem?_set_ne (Ne.symm h1)] at e
      show SlotOk K G _ H m _ _ (if j = i then [] else fp j)
      rw [if_neg h1]
      exact (sl j m e).mono e1 fun _ _ => rfl

/-- what H has and S has not -/
def rest (H S : Hp) : Hp := fun a => match S a with
  | none => H a
  | some _ => none
theorem rest_some {a : Addr} {o : HO} (h : rest H S a = some o) : H a = some o ∧ S a = none := by
  unfold rest at h
  split at h
  · exact ⟨h, by assumption⟩
  · cases h
theorem rest_of {a : Addr} {o : HO} (h : H a = some o) (h2 : S a = none) : rest H S a = some o := by
  unfold rest
  rw [h2]
  exact h
theorem replicate_get {α : Type} {n i : Nat} {a m : α} (h : (List.replicate n a)[i]? = some m) : m = a ∧ i < n := by
  rw [List.getElem?_replicate] at h
  split at h
  · cases h
    exact ⟨rfl, by assumption⟩
  · cases h
/-- the environment of a callee: its arguments are data -/
theorem EnvOk.args {vs : List V} {ds : List D} (sh : Ex S H) (fk : ∀ a o, F a = some o → H a = some o ∧ S a = none) (ha : DatL K G S vs ds) (k : Nat) :
    EnvOk K G F S H (List.replicate ds.length .d ++ List.replicate k .x) (vs.map some ++ List.replicate k none) (ds ++ List.replicate k .non) := by
  have hl := ha.length
  refine ⟨sh, fk, by simp [hl], by simp, fun _ => [], ⟨fun _ _ h => (by cases h), fun _ _ _ h => (by cases h), fun _ => List.nodup_nil⟩, fun _ _ => rfl, fun i m e => ?_⟩
  by_cases hi : i < ds.length
  · rw [List.getElem?_append_left (by simpa using hi)] at e
    obtain ⟨rfl, _⟩ := replicate_get e
    obtain ⟨v, h1, h2⟩ := ha.get (i := i) (d := ds[i]) (by simp [hi])
    refine ⟨rfl, v, ?_, ?_⟩
    · rw [List.getElem?_append_left (by simp; omega), List.getElem?_map, h1]
      rfl
    · have : (ds ++ List.replicate k D.non).getD i .non = ds[i] := by simp [List.getD, List.getElem?_append_left hi, hi]
      rw [this]
      exact h2
  · rw [List.getElem?_append_right (by simp; omega)] at e
    obtain ⟨rfl, _⟩ := replicate_get e
    rfl
theorem EnvOk.call {vs : List V} {ds : List D} (h : EnvOk K G F S H μ σ ρ) (ha : DatL K G S vs ds) (k : Nat) :
    EnvOk K G (rest H S) S H (List.replicate ds.length .d ++ List.replicate k .x) (vs.map some ++ List.replicate k none) (ds ++ List.replicate k .non) :=
  EnvOk.args h.sh (fun _ _ q => rest_some q) ha k
theorem EnvOk.back0 (h : EnvOk K G F S H μ σ ρ) (e : Ex S S') {μ' : List Mode} {σ' : L2.St} {ρ' : List D} (q : EnvOk K G (rest H S) S' H' μ' σ' ρ') : EnvOk K G F S' H' μ σ ρ := by
  refine h.grow e q.sh (fun a o ha => ?_) fun a o ha hs => (q.fk a o (rest_of ha hs)).2
  cases z : S a with
  | none => exact (q.fk a o (rest_of ha z)).1
  | some u =>
    have : u = o := by
      have := h.sh _ _ z
      rw [ha] at this
      exact (Option.some.inj this).symm
    subst this
    exact q.sh _ _ (e _ _ z)
/-- behind a call: the result joins -/
theorem EnvOk.back (h : EnvOk K G F S H μ σ ρ) (e : Ex S S') {s : Option V} {μ' : List Mode} {σ' : L2.St} {ρ' : List D} (q : EnvOk K G (rest H S) S' H' (r :: μ') (s :: σ') (d :: ρ')) : EnvOk K G F S' H' (r :: μ) (s :: σ) (d :: ρ) := by
  have h2 := h.back0 e q
  obtain ⟨fp, ⟨f1, f2, f3⟩, f4, sl, th⟩ := h.fps
  obtain ⟨fp2, ⟨g1, g2, g3⟩, g4, sl2, th2⟩ := q.fps
  have away : ∀ i a, a ∈ fp i → a ∉ fp2 0 := fun i a ha hb => by
    obtain ⟨o, ho⟩ := th i a ha
    have z := rest_of ho (f1 i a ha).1
    rw [(g1 0 a hb).2] at z
    cases z
  have nx : ∀ i m, μ[i]? = some m → SlotOk K G S' H' m (σ[i]?) (ρ.getD i .non) (fp i) := fun i m e1 => (sl i m e1).mono e fun a ha => by
    obtain ⟨o, ho⟩ := th i a ha
    rw [ho]
    exact (q.fk a o (rest_of ho (f1 i a ha).1)).1
  refine ⟨h2.sh, h2.fk, by simp [h2.ls], by simp [h2.lr], fun i => match i with | 0 => fp2 0 | i + 1 => fp i, ⟨?_, ?_, ?_⟩, ?_, ?_⟩
  · intro i a ha
    cases i with
    | zero =>
      refine ⟨(g1 0 a ha).1, ?_⟩
      cases z : F a with
      | none => rfl
      | some o =>
        obtain ⟨z1, z2⟩ := h.fk a o z
        have := rest_of z1 z2
        rw [(g1 0 a ha).2] at this
        cases this
    | succ i =>
      obtain ⟨o, ho⟩ := th i a ha
      exact ⟨(q.fk a o (rest_of ho (f1 i a ha).1)).2, (f1 i a ha).2⟩
  · intro i j a ha hb
    cases i with
    | zero =>
      cases j with
      | zero => rfl
      | succ j => exact absurd ha (away j a hb)
    | succ i =>
      cases j with
      | zero => exact absurd hb (away i a ha)
      | succ j => exact congrArg (· + 1) (f2 i j a ha hb)
  · intro i
    cases i with
    | zero => exact g3 0
    | succ i => exact f3 i
  · intro i hi
    cases i with
    | zero => simp at hi
    | succ i => exact f4 i (by simpa using hi)
  · intro i m e1
    cases i with
    | zero =>
      simp only [List.getElem?_cons_zero, Option.some.injEq] at e1
      subst e1
      have z := sl2 0 r rfl
      simpa using z
    | succ i =>
      have z := nx i m (by simpa using e1)
      simpa using z
theorem EnvOk.var {i : Nat} (h : EnvOk K G F S H μ σ ρ) (e : μ[i]? = some .d) : ∃ v, σ[i]? = some (some v) ∧ Dat K G S v (ρ.getD i .non) := by
  obtain ⟨fp, _, _, sl⟩ := h.sl
  exact (sl i .d e).2
theorem EnvOk.evar {i : Nat} {a : Addr} (h : EnvOk K G F S H μ σ ρ) (e : μ[i]? = some (.e a)) : σ[i]? = some (some (.ref a)) := by
  obtain ⟨fp, _, _, sl⟩ := h.sl
  exact (sl i (.e a) e).2
theorem own_flat {vs : List V} {ds : List D} {fp : List Addr} (h : OwnL K G S H vs ds fp) (e : fp = []) : DatL K G S vs ds := by
  match h with
  | .nil => exact .nil
  | .dat a t => exact .cons a (own_flat t e)
  | .own a _ =>
    exfalso
    cases a <;> simp at e
theorem EnvOk.ovar {i : Nat} (h : EnvOk K G F S H μ σ ρ) (e : μ[i]? = some .o) : ∃ p, σ[i]? = some (some (.ref p)) ∧ Own K G S H p (ρ.getD i .non) [p] := by
  obtain ⟨fp, _, _, sl⟩ := h.sl
  obtain ⟨p, a, b, c⟩ := sl i .o e
  rw [c] at b
  exact ⟨p, a, b⟩
end
end MR

set_option Elab.async false
set_option linter.all false
set_option maxRecDepth 100000
set_option maxHeartbeats 1000000
/-! MB2: what code comes to over data (RR, Out), soundness of the kit's readings, statements and loops. -/
namespace MR
open PySem L2

inductive RR (α : Type) where
  | ok (a : α) (ρ : List D) | exc (e : Err) (ρ : List D) | bad
inductive Out where
  | nx (ρ : List D) | ret (d : D) (ρ : List D) | brk (ρ : List D) | cnt (ρ : List D) | exc (e : Err) (ρ : List D) | bad
/-- what a def comes to -/
inductive RP where
  | ok (d : D) | exc (e : Err) | bad
abbrev ME := List D → RR D
abbrev MT := List D → RR Bool
abbrev MA := List D → RR (List D)
abbrev MS := List D → Out
abbrev MP := List D → RP
abbrev MB := D → List D → Option (List D)

/-- the exception as the kit tells it: its class, its own dict -/
def ErrAt (G : Cl) (e : Err) (c : Value) (dct : Option Addr) (H : Hp) : Prop :=
  c = .ref (G.eA e.tag) ∧ match e with
    | .line n => ∃ d, dct = some d ∧ H d = some (.xd [(("line" : Str), .int n)])
    | _ => dct = none
abbrev XS := L2.St → XK

/-- what a body is held to: what is wanted of an exception, how a result is handed back, the modes that hold at its ends -/
structure SC where
  E : XS
  rm : Mode
  μx : List Mode
  μb : List Mode
  μc : List Mode

section
variable (K : PySem.W.Frag) (G : Cl)
def XOk (E : XS) (μ : List Mode) (F S : Hp) (σ : L2.St) (e : Err) (ρ' : List D) : Prop :=
  ∀ c dct S' H', Ex S S' → EnvOk K G F S' H' μ σ ρ' → ErrAt G e c dct H' → E σ c dct H'
def EOk (E : XS) (r : Mode) (μ : List Mode) (F S : Hp) (σ : L2.St) (Q : VK) : RR D → Prop
  | .ok d ρ' => ∀ v S' H', Ex S S' → EnvOk K G F S' H' (r :: μ) (some v :: σ) (d :: ρ') → Q v H'
  | .exc e ρ' => XOk K G E μ F S σ e ρ'
  | .bad => False
def TOk (E : XS) (μ : List Mode) (F S : Hp) (σ : L2.St) (Q : Bool → Hp → Prop) : RR Bool → Prop
  | .ok b ρ' => ∀ S' H', Ex S S' → EnvOk K G F S' H' μ σ ρ' → Q b H'
  | .exc e ρ' => XOk K G E μ F S σ e ρ'
  | .bad => False
def AOk (E : XS) (μ : List Mode) (F S : Hp) (σ : L2.St) (Q : List V → Hp → Prop) : RR (List D) → Prop
  | .ok ds ρ' => ∀ vs S' H', Ex S S' → EnvOk K G F S' H' μ σ ρ' → DatL K G S' vs ds → Q vs H'
  | .exc e ρ' => XOk K G E μ F S σ e ρ'
  | .bad => False
/-- what is walked: its items as data; each is the old heap's, or a new tuple of such -/
structure ItOk (S : Hp) (J : It) (ds : List D) : Prop where
  goes : ∀ i H, i < ds.length → Ex S H → J.go i H
  stops : ∀ H, Ex S H → J.stop ds.length H
  yields : ∀ i H x H' d, ds[i]? = some d → Ex S H → J.yld i H x H' →
    (H' = H ∧ Dat K G S x d) ∨ ∃ T xs es, x = .ref T ∧ H T = none ∧ H' = upd H T (.tup xs) ∧ d = .tup es ∧ DatL K G S xs es
def IOk (E : XS) (μ : List Mode) (F S : Hp) (σ : L2.St) (R : It → Hp → Prop) : RR (List D) → Prop
  | .ok ds ρ' => ∀ J S' H', Ex S S' → EnvOk K G F S' H' μ σ ρ' → ItOk K G S' J ds → R J H'
  | .exc e ρ' => XOk K G E μ F S σ e ρ'
  | .bad => False
def OutOk (C : SC) (μ' : List Mode) (F S : Hp) (D : Ends) : Out → Prop
  | .nx ρ' => ∀ σ' S' H', Ex S S' → EnvOk K G F S' H' μ' σ' ρ' → D.nx σ' H'
  | .ret d ρ' => ∀ v μ1 σ' S' H', ModesLe C.μx μ1 = true → Ex S S' → EnvOk K G F S' H' (C.rm :: μ1) (some v :: σ') (d :: ρ') → D.rt v H'
  | .brk ρ' => ∀ σ' S' H', Ex S S' → EnvOk K G F S' H' C.μb σ' ρ' → D.bk σ' H'
  | .cnt ρ' => ∀ σ' S' H', Ex S S' → EnvOk K G F S' H' C.μc σ' ρ' → D.ct σ' H'
  | .exc e ρ' => ∀ μ1 σ' c dct S' H', ModesLe C.μx μ1 = true → Ex S S' → EnvOk K G F S' H' μ1 σ' ρ' → ErrAt G e c dct H' → C.E σ' c dct H'
  | .bad => False
def SE (E : XS) (r : Mode) (μ : List Mode) (t : TE) (m : ME) : Prop := ∀ F S H σ ρ, EnvOk K G F S H μ σ ρ → ∀ Q : VK, EOk K G E r μ F S σ Q (m ρ) → t σ H Q
def ST (E : XS) (μ : List Mode) (t : TT) (m : MT) : Prop := ∀ F S H σ ρ, EnvOk K G F S H μ σ ρ → ∀ Q, TOk K G E μ F S σ Q (m ρ) → t σ H Q
def SA (E : XS) (μ : List Mode) (t : TA) (m : MA) : Prop := ∀ F S H σ ρ, EnvOk K G F S H μ σ ρ → ∀ Q, AOk K G E μ F S σ Q (m ρ) → t σ H Q
def SI (E : XS) (μ : List Mode) (t : TI) (m : MA) : Prop := ∀ F S H σ ρ, EnvOk K G F S H μ σ ρ → ∀ R, IOk K G E μ F S σ R (m ρ) → t σ H R
/-- a target: data goes into slots -/
def SG (μ μ' : List Mode) (g : TG) (b : MB) : Prop := ∀ F S H σ ρ v d ρ', EnvOk K G F S H μ σ ρ → Dat K G S v d → b d ρ = some ρ' →
  ∀ Q : L2.St → Hp → Prop, (∀ σ' S' H', Ex S S' → EnvOk K G F S' H' μ' σ' ρ' → Q σ' H') → g v σ H Q
def SS (C : SC) (μ μ' : List Mode) (t : TS) (m : MS) : Prop := ∀ F S H σ ρ, EnvOk K G F S H μ σ ρ → ∀ D : Ends, OutOk K G C μ' F S D (m ρ) → t D σ H
end

section
variable {K : PySem.W.Frag} {G : Cl} {E : XS} {C : SC} {μ μ' : List Mode} {r : Mode} {F S S' : Hp} {σ : L2.St}
theorem XOk.mono {e : Err} {ρ' : List D} (x : Ex S S') (k : XOk K G E μ F S σ e ρ') : XOk K G E μ F S' σ e ρ' := fun c d S2 H2 e2 h2 z => k c d S2 H2 (x.trans e2) h2 z
theorem EOk.mono {Q : VK} (x : Ex S S') : ∀ {o : RR D}, EOk K G E r μ F S σ Q o → EOk K G E r μ F S' σ Q o
  | .ok _ _, k => fun v S2 H2 e2 h2 => k v S2 H2 (x.trans e2) h2
  | .exc _ _, k => XOk.mono x k
  | .bad, k => k
theorem TOk.mono {Q : Bool → Hp → Prop} (x : Ex S S') : ∀ {o : RR Bool}, TOk K G E μ F S σ Q o → TOk K G E μ F S' σ Q o
  | .ok _ _, k => fun S2 H2 e2 h2 => k S2 H2 (x.trans e2) h2
  | .exc _ _, k => XOk.mono x k
  | .bad, k => k
theorem AOk.mono {Q : List V → Hp → Prop} (x : Ex S S') : ∀ {o : RR (List D)}, AOk K G E μ F S σ Q o → AOk K G E μ F S' σ Q o
  | .ok _ _, k => fun v S2 H2 e2 h2 => k v S2 H2 (x.trans e2) h2
  | .exc _ _, k => XOk.mono x k
  | .bad, k => k
theorem IOk.mono {R : It → Hp → Prop} (x : Ex S S') : ∀ {o : RR (List D)}, IOk K G E μ F S σ R o → IOk K G E μ F S' σ R o
  | .ok _ _, k => fun v S2 H2 e2 h2 => k v S2 H2 (x.trans e2) h2
  | .exc _ _, k => XOk.mono x k
  | .bad, k => k
theorem OutOk.mono {D : Ends} (e : Ex S S') : ∀ {o : Out}, OutOk K G C μ' F S D o → OutOk K G C μ' F S' D o
  | .nx _, k => fun σ2 S2 H2 e2 h2 => k σ2 S2 H2 (e.trans e2) h2
  | .ret _ _, k => fun v m1 σ2 S2 H2 l e2 h2 => k v m1 σ2 S2 H2 l (e.trans e2) h2
  | .brk _, k => fun σ2 S2 H2 e2 h2 => k σ2 S2 H2 (e.trans e2) h2
  | .cnt _, k => fun σ2 S2 H2 e2 h2 => k σ2 S2 H2 (e.trans e2) h2
  | .exc _ _, k => fun m1 σ2 c d S2 H2 l e2 h2 => k m1 σ2 c d S2 H2 l (e.trans e2) h2
  | .bad, k => k
end

/-! ### the judgements: a piece of syntax has a kit reading, and that is sound for a mirror -/
structure JE (X : Cx) (G : Cl) (E : XS) (r : Mode) (μ : List Mode) (e : Expr) (m : ME) : Prop where
  ex : ∃ t, PE X e t ∧ SE X.K G E r μ t m
structure JT (X : Cx) (G : Cl) (E : XS) (μ : List Mode) (e : Expr) (m : MT) : Prop where
  ex : ∃ t, PT X e t ∧ ST X.K G E μ t m
structure JW (X : Cx) (G : Cl) (E : XS) (μ : List Mode) (e : Expr) (m : MT) : Prop where
  ex : ∃ t, PW X e t ∧ ST X.K G E μ t m
structure JA (X : Cx) (G : Cl) (E : XS) (μ : List Mode) (es : List Expr) (m : MA) : Prop where
  ex : ∃ t, PA X es t ∧ SA X.K G E μ t m
structure JI (X : Cx) (G : Cl) (E : XS) (μ : List Mode) (tg iter : Expr) (m : MA) : Prop where
  ex : ∃ t, PI X tg iter t ∧ SI X.K G E μ t m
structure JG (X : Cx) (G : Cl) (μ μ' : List Mode) (e : Expr) (b : MB) : Prop where
  ex : ∃ g, PG X e g ∧ SG X.K G μ μ' g b
structure JGs (X : Cx) (G : Cl) (μ μ' : List Mode) (es : List Expr) (b : List D → List D → Option (List D)) : Prop where
  ex : ∃ g, PGs X es g ∧ ∀ F S H σ ρ vs ds ρ', EnvOk X.K G F S H μ σ ρ → DatL X.K G S vs ds → b ds ρ = some ρ' →
    ∀ Q : L2.St → Hp → Prop, (∀ σ' S' H', Ex S S' → EnvOk X.K G F S' H' μ' σ' ρ' → Q σ' H') → g vs σ H Q
structure JS (X : Cx) (G : Cl) (C : SC) (μ μ' : List Mode) (st : Stmt) (m : MS) : Prop where
  ex : ∃ t, PS X st t ∧ SS X.K G C μ μ' t m
structure JSs (X : Cx) (G : Cl) (C : SC) (μ μ' : List Mode) (sts : List Stmt) (m : MS) : Prop where
  ex : ∃ t, PSs X sts t ∧ SS X.K G C μ μ' t m

section
variable {X : Cx} {G : Cl} {E : XS} {C : SC} {μ μ' μ1 : List Mode} {r : Mode}

theorem err_mono {G : Cl} {e : Err} {c : Value} {dct : Option Addr} {H H' : Hp} (x : Ex H H') (h : ErrAt G e c dct H) : ErrAt G e c dct H' := by
  refine ⟨h.1, ?_⟩
  have h2 := h.2
  cases e <;> first | exact h2 | exact (let ⟨d, a, b⟩ := h2; ⟨d, a, x _ _ b⟩)
/-- an exception of an expression, of a statement -/
theorem xout {K : PySem.W.Frag} {F S : Hp} {σ : L2.St} {e : Err} {ρ' : List D} (w : ModesLe C.μx μ = true)
    (k : ∀ μ1 σ' c dct S' H', ModesLe C.μx μ1 = true → Ex S S' → EnvOk K G F S' H' μ1 σ' ρ' → ErrAt G e c dct H' → C.E σ' c dct H') : XOk K G C.E μ F S σ e ρ' :=
  fun c d S' H' e h' z => k μ σ c d S' H' w e h' z

/-! ### blocks -/
def mNext : MS := fun ρ => .nx ρ
def mSeq (a b : MS) : MS := fun ρ => match a ρ with
  | .nx ρ' => b ρ'
  | o => o
theorem jss_nil : JSs X G C μ μ [] mNext := ⟨tNext, pss_nil, fun F S H σ ρ h D k => k σ S H (Evl.Ex.refl S) h⟩
theorem ss_seq {K : PySem.W.Frag} {t u : TS} {a b : MS} (h1 : SS K G C μ μ1 t a) (h2 : SS K G C μ1 μ' u b) : SS K G C μ μ' (tSeq t u) (mSeq a b) := by
  intro F S H σ ρ h D k
  refine h1 F S H σ ρ h { D with nx := u D } ?_
  unfold mSeq at k
  cases q : a ρ with
  | nx ρ' =>
    rw [q] at k
    exact fun σ' S' H' e h' => h2 F S' H' σ' ρ' h' D (OutOk.mono e k)
  | _ => rw [q] at k; exact k
theorem jss_cons {st : Stmt} {rest : List Stmt} {a b : MS} (h1 : JS X G C μ μ1 st a) (h2 : JSs X G C μ1 μ' rest b) : JSs X G C μ μ' (st :: rest) (mSeq a b) := by
  obtain ⟨t, p1, s1⟩ := h1.ex
  obtain ⟨u, p2, s2⟩ := h2.ex
  exact ⟨_, pss_cons p1 p2, ss_seq s1 s2⟩
theorem jss_one {st : Stmt} {a : MS} (h1 : JS X G C μ μ' st a) : JSs X G C μ μ' [st] a := by
  obtain ⟨t, p1, s1⟩ := h1.ex
  exact ⟨_, pss_one p1, s1⟩
/-- slots are forgotten at the end of a block; ahead of a statement -/
def mKeep (μ : List Mode) (a : MS) : MS := fun ρ => match a ρ with
  | .nx ρ' => .nx (keep μ ρ')
  | o => o
theorem jss_weak {sts : List Stmt} {a : MS} (h : JSs X G C μ μ1 sts a) (w : ModesLe μ' μ1 = true := by rfl) : JSs X G C μ μ' sts (mKeep μ' a) := by
  obtain ⟨t, p1, s1⟩ := h.ex
  refine ⟨t, p1, fun F S H σ ρ h D k => s1 F S H σ ρ h D ?_⟩
  unfold mKeep at k
  cases q : a ρ with
  | nx ρ' =>
    rw [q] at k
    exact fun σ' S' H' e h' => k σ' S' H' e (h'.weak w)
  | _ => rw [q] at k; exact k
def mKeep0 (μ : List Mode) (a : MS) : MS := fun ρ => a (keep μ ρ)
theorem js_weak0 {st : Stmt} {a : MS} (h : JS X G C μ1 μ' st a) (w : ModesLe μ1 μ = true := by rfl) : JS X G C μ μ' st (mKeep0 μ1 a) := by
  obtain ⟨t, p1, s1⟩ := h.ex
  exact ⟨t, p1, fun F S H σ ρ h D k => s1 F S H σ _ (h.weak w) D k⟩
theorem js_weak1 {st : Stmt} {a : MS} (h : JS X G C μ μ1 st a) (w : ModesLe μ' μ1 = true := by rfl) : JS X G C μ μ' st (mKeep μ' a) := by
  obtain ⟨t, p1, s1⟩ := h.ex
  refine ⟨t, p1, fun F S H σ ρ h D k => s1 F S H σ ρ h D ?_⟩
  unfold mKeep at k
  cases q : a ρ with
  | nx ρ' =>
    rw [q] at k
    exact fun σ' S' H' e h' => k σ' S' H' e (h'.weak w)
  | _ => rw [q] at k; exact k
/-- an owned slot is frozen ahead of a statement -/
theorem jss_frz {sts : List Stmt} {a : MS} (i : Nat) (h : JSs X G C (μ.set i .d) μ' sts a) (e : μ[i]? = some .o := by rfl) : JSs X G C μ μ' sts a := by
  obtain ⟨t, p1, s1⟩ := h.ex
  refine ⟨t, p1, fun F S H σ ρ h D k => ?_⟩
  obtain ⟨S1, e1, h1⟩ := h.frz (.inl e)
  exact s1 F S1 H σ ρ h1 D (OutOk.mono e1 k)
theorem js_frz {st : Stmt} {a : MS} (i : Nat) (h : JS X G C (μ.set i .d) μ' st a) (e : μ[i]? = some .o := by rfl) : JS X G C μ μ' st a := by
  obtain ⟨t, p1, s1⟩ := h.ex
  refine ⟨t, p1, fun F S H σ ρ h D k => ?_⟩
  obtain ⟨S1, e1, h1⟩ := h.frz (.inl e)
  exact s1 F S1 H σ ρ h1 D (OutOk.mono e1 k)

/-! ### statements -/
def mPass : MS := fun ρ => .nx ρ
theorem js_pass {pos : Pos} : JS X G C μ μ (.Pass pos) mPass := ⟨tNext, ps_pass, fun F S H σ ρ h D k => k σ S H (Evl.Ex.refl S) h⟩
def mBreak : MS := fun ρ => .brk ρ
theorem js_break {pos : Pos} (e : C.μb = μ := by rfl) : JS X G C μ μ' (.Break pos) mBreak := ⟨tBreak, ps_break, fun F S H σ ρ h D k => k σ S H (Evl.Ex.refl S) (e ▸ h)⟩
def mCont : MS := fun ρ => .cnt ρ
theorem js_cont {pos : Pos} (e : C.μc = μ := by rfl) : JS X G C μ μ' (.Continue pos) mCont := ⟨tCont, ps_continue, fun F S H σ ρ h D k => k σ S H (Evl.Ex.refl S) (e ▸ h)⟩
/-- x = e -/
def mAsg (i : Nat) (a : ME) : MS := fun ρ => match a ρ with
  | .ok d ρ' => .nx (ρ'.set i d)
  | .exc e ρ' => .exc e ρ'
  | .bad => .bad
theorem js_asg {i : Nat} {x : Str} {e : Expr} {a : ME} {pos pos' : Pos} (hN : X.N.Nodup) (he : JE X G C.E r μ e a) (hi : X.N[i]? = some x := by rfl) (hx : Loc X.env.scope x := by first | exact Or.inl rfl | exact Or.inr rfl) (hlt : i < μ.length := by decide) (w : ModesLe C.μx μ = true := by rfl)
    (hs : swapsWith e (some (.Name x pos')) pos.line X.env = pure false := by rfl) (hf : X.fn x = true ∨ X.env.scope.names.lookup x = some .local := by first | exact .inl rfl | exact .inr rfl) :
    JS X G C μ (μ.set i r) (.Assign [.Name x pos'] e pos) (mAsg i a) := by
  obtain ⟨t, p1, s1⟩ := he.ex
  refine ⟨_, ps_set hN hi hx p1 hs hf, fun F S H σ ρ h D k => ?_⟩
  refine s1 F S H σ ρ h _ ?_
  unfold mAsg at k
  cases q : a ρ with
  | ok d ρ' => rw [q] at k; exact fun v S' H' e h' => k _ S' H' e (h'.store hlt)
  | exc e ρ' => rw [q] at k; exact xout w k
  | bad => rw [q] at k; exact k
/-- return e -/
def mRet (a : ME) : MS := fun ρ => match a ρ with
  | .ok d ρ' => .ret d ρ'
  | .exc e ρ' => .exc e ρ'
  | .bad => .bad
theorem js_ret {e : Expr} {a : ME} {pos : Pos} (he : JE X G C.E C.rm μ e a) (w : ModesLe C.μx μ = true := by rfl) : JS X G C μ μ' (.Return (some e) pos) (mRet a) := by
  obtain ⟨t, p1, s1⟩ := he.ex
  refine ⟨_, ps_ret p1, fun F S H σ ρ h D k => ?_⟩
  refine s1 F S H σ ρ h _ ?_
  unfold mRet at k
  cases q : a ρ with
  | ok d ρ' => rw [q] at k; exact fun v S' H' e h' => k v μ σ S' H' w e h'
  | exc e ρ' => rw [q] at k; exact xout w k
  | bad => rw [q] at k; exact k
/-- an expression as a statement -/
def mDrop (a : ME) : MS := fun ρ => match a ρ with
  | .ok _ ρ' => .nx ρ'
  | .exc e ρ' => .exc e ρ'
  | .bad => .bad
theorem js_drop {e : Expr} {a : ME} {pos : Pos} (he : JE X G C.E r μ e a) (w : ModesLe C.μx μ = true := by rfl) (hs : swapsWith e none pos.line X.env = pure false := by rfl) : JS X G C μ μ (.Expr e pos) (mDrop a) := by
  obtain ⟨t, p1, s1⟩ := he.ex
  refine ⟨_, ps_expr p1 hs, fun F S H σ ρ h D k => ?_⟩
  refine s1 F S H σ ρ h _ ?_
  unfold mDrop at k
  cases q : a ρ with
  | ok d ρ' => rw [q] at k; exact fun v S' H' e h' => k σ S' H' e h'.tail
  | exc e ρ' => rw [q] at k; exact xout w k
  | bad => rw [q] at k; exact k
/-- if -/
def mIf (c : MT) (a b : MS) : MS := fun ρ => match c ρ with
  | .ok true ρ' => a ρ'
  | .ok false ρ' => b ρ'
  | .exc e ρ' => .exc e ρ'
  | .bad => .bad
theorem js_if {c : Expr} {a b : List Stmt} {mc : MT} {ma mb : MS} {pos : Pos} (hc : JT X G C.E μ c mc) (ha : JSs X G C μ μ' a ma) (hb : JSs X G C μ μ' b mb) (w : ModesLe C.μx μ = true := by rfl) : JS X G C μ μ' (.If c a b pos) (mIf mc ma mb) := by
  obtain ⟨t, p1, s1⟩ := hc.ex
  obtain ⟨ta, p2, s2⟩ := ha.ex
  obtain ⟨tb, p3, s3⟩ := hb.ex
  refine ⟨_, ps_if p1 p2 p3, fun F S H σ ρ h D k => ?_⟩
  refine s1 F S H σ ρ h _ ?_
  unfold mIf at k
  cases q : mc ρ with
  | ok x ρ1 =>
    rw [q] at k
    intro S1 H1 e1 h1
    cases x with
    | true =>
      rw [if_pos rfl]
      exact s2 F S1 H1 σ ρ1 h1 D (OutOk.mono e1 k)
    | false =>
      rw [if_neg Bool.false_ne_true]
      exact s3 F S1 H1 σ ρ1 h1 D (OutOk.mono e1 k)
  | exc e1 ρ1 => rw [q] at k; exact xout w k
  | bad => rw [q] at k; exact k

/-! ### while -/
def whileN (c : MT) (a : MS) : Nat → MS
  | 0, _ => .bad
  | n + 1, ρ => match c ρ with
    | .ok true ρ1 => match a ρ1 with
      | .nx ρ2 => whileN c a n ρ2
      | .cnt ρ2 => whileN c a n ρ2
      | .brk ρ2 => .nx ρ2
      | o => o
    | .ok false ρ1 => .nx ρ1
    | .exc e ρ1 => .exc e ρ1
    | .bad => .bad
def mWhile (fuel : List D → Nat) (c : MT) (a : MS) : MS := fun ρ => whileN c a (fuel ρ) ρ
theorem js_while {c : Expr} {body : List Stmt} {mc : MT} {mb : MS} {pos : Pos} (fuel : List D → Nat) (hp : PassesOwn (model X.prog X.w) X.A X.env X.xe) (hc : JT X G C.E μ c mc)
    (hb : JSs X G { C with μb := μ, μc := μ } μ μ body mb) (w : ModesLe C.μx μ = true := by rfl) : JS X G C μ μ (.While c body [] pos) (mWhile fuel mc mb) := by
  obtain ⟨t, p1, s1⟩ := hc.ex
  obtain ⟨tb, p2, s2⟩ := hb.ex
  refine ⟨_, ps_while hp p1 p2, fun F S H σ ρ h D k => ?_⟩
  refine ⟨fun n σ1 H1 => ∃ S1 ρ1, EnvOk X.K G F S1 H1 μ σ1 ρ1 ∧ OutOk X.K G C μ F S1 D (whileN mc mb n ρ1), ⟨fuel ρ, S, ρ, h, k⟩, ?_⟩
  rintro n σ1 H1 ⟨S1, ρ1, h1, k1⟩
  cases n with
  | zero => exact k1.elim
  | succ n =>
    refine s1 F S1 H1 σ1 ρ1 h1 _ ?_
    unfold whileN at k1
    cases q : mc ρ1 with
    | ok x ρ2 =>
      rw [q] at k1
      intro S2 H2 e2 h2
      cases x with
      | true =>
        rw [if_pos rfl]
        refine ⟨fun σ3 H3 => ∃ S3 ρ3, EnvOk X.K G F S3 H3 μ σ3 ρ3 ∧ OutOk X.K G C μ F S3 D (whileN mc mb n ρ3), fun σ3 H3 z => ⟨n, Nat.lt_succ_self n, z⟩, ?_⟩
        refine s2 F S2 H2 σ1 ρ2 h2 _ ?_
        have k2 := OutOk.mono e2 k1
        simp only at k2
        cases q2 : mb ρ2 with
        | nx ρ3 => rw [q2] at k2; exact fun σ3 S3 H3 e3 h3 => ⟨S3, ρ3, h3, OutOk.mono e3 k2⟩
        | cnt ρ3 => rw [q2] at k2; exact fun σ3 S3 H3 e3 h3 => ⟨S3, ρ3, h3, OutOk.mono e3 k2⟩
        | brk ρ3 => rw [q2] at k2; exact fun σ3 S3 H3 e3 h3 => k2 σ3 S3 H3 e3 h3
        | ret d ρ3 => rw [q2] at k2; exact fun v m1 σ3 S3 H3 l e3 h3 => k2 v m1 σ3 S3 H3 l e3 h3
        | exc d ρ3 => rw [q2] at k2; exact fun m1 σ3 c d S3 H3 l e3 h3 => k2 m1 σ3 c d S3 H3 l e3 h3
        | bad => rw [q2] at k2; exact k2
      | false =>
        rw [if_neg Bool.false_ne_true]
        exact k1 σ1 S2 H2 e2 h2
    | exc e1 ρ2 => rw [q] at k1; exact xout w k1
    | bad => rw [q] at k1; exact k1

/-! ### for -/
def forL (b : MB) (a : MS) : List D → MS
  | [], ρ => .nx ρ
  | d :: ds, ρ => match b d ρ with
    | none => .bad
    | some ρ1 => match a ρ1 with
      | .nx ρ2 => forL b a ds ρ2
      | .cnt ρ2 => forL b a ds ρ2
      | .brk ρ2 => .nx ρ2
      | o => o
def mFor (it : MA) (b : MB) (a : MS) : MS := fun ρ => match it ρ with
  | .ok ds ρ1 => forL b a ds ρ1
  | .exc e ρ1 => .exc e ρ1
  | .bad => .bad
/-- a yielded item, the heap behind it -/
theorem ItOk.item {K : PySem.W.Frag} {F S S0 H H' : Hp} {σ : L2.St} {ρ : List D} {J : It} {ds : List D} {i : Nat} {x : V} {d : D} (w : ItOk K G S0 J ds) (h : EnvOk K G F S H μ σ ρ) (e : Ex S0 S) (hd : ds[i]? = some d) (y : J.yld i H x H') :
    ∃ S', Ex S S' ∧ EnvOk K G F S' H' μ σ ρ ∧ Dat K G S' x d := by
  rcases w.yields i H x H' d hd (e.trans h.sh) y with ⟨rfl, q⟩ | ⟨T, xs, es, rfl, hT, rfl, rfl, q⟩
  · exact ⟨S, Evl.Ex.refl S, h, q.mono e⟩
  · have hS : S T = none := ex_none h.sh hT
    have e1 : Ex S (upd S T (.tup xs)) := Evl.Ex.new hS
    refine ⟨upd S T (.tup xs), e1, h.grow e1 (fun a o ha => ?_) (Evl.Ex.new hT) fun a o ha hs => ?_, .tup (Or.inl (Or.inl upd_same)) ((q.mono e).mono e1)⟩
    · by_cases z : a = T
      · subst z
        rw [upd_same] at ha ⊢
        exact ha
      · rw [upd_ne z] at ha ⊢
        exact h.sh _ _ ha
    · rw [upd_ne (ne_of_none ha hT)]
      exact hs
theorem js_for {tg iter : Expr} {body : List Stmt} {mi : MA} {b : MB} {mb : MS} {pos : Pos} (hp : PassesOwn (model X.prog X.w) X.A X.env X.xe) (hi : JI X G C.E μ tg iter mi) (hg : JG X G μ μ1 tg b)
    (hb : JSs X G { C with μb := μ, μc := μ } μ1 μ body mb) (hc : X.calm = true := by rfl) (w : ModesLe C.μx μ = true := by rfl)
    (hs : ∀ x, foldedSetIterable iter X.env x = pure x := by intro _; rfl) : JS X G C μ μ (.For tg iter body [] pos) (mFor mi b mb) := by
  obtain ⟨ti, p1, s1⟩ := hi.ex
  obtain ⟨g, p2, s2⟩ := hg.ex
  obtain ⟨tb, p3, s3⟩ := hb.ex
  refine ⟨_, ps_for hp hc p1 p2 p3 hs, fun F S H σ ρ h D k => ?_⟩
  refine s1 F S H σ ρ h _ ?_
  unfold mFor at k
  cases q : mi ρ with
  | ok ds ρ1 =>
    rw [q] at k
    intro J S1 H1 e1 h1 it
    refine ⟨fun i m σ2 H2 => m = ds.length - i ∧ i ≤ ds.length ∧ ∃ S2 ρ2, Ex S1 S2 ∧ EnvOk X.K G F S2 H2 μ σ2 ρ2 ∧ OutOk X.K G C μ F S2 D (forL b mb (ds.drop i) ρ2), ⟨ds.length, by simp, Nat.zero_le _, S1, ρ1, Evl.Ex.refl S1, h1, OutOk.mono e1 k⟩, ?_⟩
    rintro i m σ2 H2 ⟨rfl, hi, S2, ρ2, e2, h2, k2⟩
    by_cases hlt : i < ds.length
    · refine .inr ⟨it.goes i H2 hlt (e2.trans h2.sh), fun σ3 H3 => ∃ S3 ρ3, Ex S1 S3 ∧ EnvOk X.K G F S3 H3 μ σ3 ρ3 ∧ OutOk X.K G C μ F S3 D (forL b mb (ds.drop (i + 1)) ρ3), fun σ3 H3 z => ⟨ds.length - (i + 1), by omega, rfl, hlt, z⟩, fun x H' y => ?_⟩
      obtain ⟨S3, e3, h3, q3⟩ := it.item h2 e2 (List.getElem?_eq_getElem hlt) y
      rw [List.drop_eq_getElem_cons hlt] at k2
      unfold forL at k2
      cases q4 : b ds[i] ρ2 with
      | none => rw [q4] at k2; exact k2.elim
      | some ρ3 =>
        rw [q4] at k2
        refine s2 F S3 H' σ2 ρ2 x _ ρ3 h3 q3 q4 _ fun σ3 S4 H4 e4 h4 => ?_
        refine s3 F S4 H4 σ3 ρ3 h4 _ ?_
        have k3 := OutOk.mono (e3.trans e4) k2
        simp only at k3
        cases q5 : mb ρ3 with
        | nx ρ4 => rw [q5] at k3; exact fun σ5 S5 H5 e5 h5 => ⟨S5, ρ4, ((e2.trans e3).trans e4).trans e5, h5, OutOk.mono e5 k3⟩
        | cnt ρ4 => rw [q5] at k3; exact fun σ5 S5 H5 e5 h5 => ⟨S5, ρ4, ((e2.trans e3).trans e4).trans e5, h5, OutOk.mono e5 k3⟩
        | brk ρ4 => rw [q5] at k3; exact fun σ5 S5 H5 e5 h5 => k3 σ5 S5 H5 e5 h5
        | ret d ρ4 => rw [q5] at k3; exact fun v m1 σ5 S5 H5 l e5 h5 => k3 v m1 σ5 S5 H5 l e5 h5
        | exc d ρ4 => rw [q5] at k3; exact fun m1 σ5 c d S5 H5 l e5 h5 => k3 m1 σ5 c d S5 H5 l e5 h5
        | bad => rw [q5] at k3; exact k3
    · have e4 : i = ds.length := by omega
      subst e4
      rw [List.drop_length] at k2
      exact .inl ⟨it.stops H2 (e2.trans h2.sh), k2 σ2 S2 H2 (Evl.Ex.refl S2) h2⟩
  | exc e1 ρ1 => rw [q] at k; exact xout w k
  | bad => rw [q] at k; exact k
end
end MR

set_option Elab.async false
set_option linter.all false
set_option maxRecDepth 100000
set_option maxHeartbeats 1000000
/-! MB3: expressions: names, constants, operators, comparisons, subscripts, displays, calls of builtins. -/
namespace MR
open PySem L2 PyProof.Rows

def RR.bind {α β : Type} (o : RR α) (k : α → List D → RR β) : RR β := match o with
  | .ok a ρ => k a ρ
  | .exc e ρ => .exc e ρ
  | .bad => .bad
theorem bind_ok {α β : Type} (a : α) (ρ : List D) (k : α → List D → RR β) : (RR.ok a ρ).bind k = k a ρ := rfl
theorem bind_exc {α β : Type} (e : Err) (ρ : List D) (k : α → List D → RR β) : (RR.exc e ρ).bind k = .exc e ρ := rfl
theorem bind_bad {α β : Type} (k : α → List D → RR β) : (RR.bad : RR α).bind k = .bad := rfl
def RR.of {α : Type} (o : Option α) (ρ : List D) : RR α := match o with
  | some a => .ok a ρ
  | none => .bad
theorem of_some {α : Type} (a : α) (ρ : List D) : RR.of (some a) ρ = .ok a ρ := rfl
theorem of_none {α : Type} (ρ : List D) : (RR.of none ρ : RR α) = .bad := rfl

section
variable {K : PySem.W.Frag} {G : Cl} {E : XS} {μ : List Mode} {r : Mode} {F S H : Hp} {σ : L2.St} {ρ : List D}
/-- what a value rule hands on -/
def RVal (K : PySem.W.Frag) (G : Cl) (μ : List Mode) (F S : Hp) (σ : L2.St) (ρ : List D) (r : Mode) (z : D) (Q : VK) : Prop := ∀ v S' H', Ex S S' → EnvOk K G F S' H' (r :: μ) (some v :: σ) (z :: ρ) → Q v H'
theorem RVal.dat {z : D} {Q : VK} {v : V} {S' H' : Hp} (k : RVal K G μ F S σ ρ .d z Q) (e : Ex S S') (h : EnvOk K G F S' H' μ σ ρ) (q : Dat K G S' v z) : Q v H' := k v S' H' e (h.push q)
/-- a new object that is known from now on -/
theorem EnvOk.alloc {p : Addr} {o : HO} (h : EnvOk K G F S H μ σ ρ) (hp : H p = none) : Ex S (upd S p o) ∧ EnvOk K G F (upd S p o) (upd H p o) μ σ ρ := by
  have hS : S p = none := ex_none h.sh hp
  refine ⟨Evl.Ex.new hS, h.grow (Evl.Ex.new hS) (fun a u q => ?_) (Evl.Ex.new hp) fun a u q1 q2 => ?_⟩
  · by_cases e : a = p
    · subst e
      rw [upd_same] at q ⊢
      exact q
    · rw [upd_ne e] at q ⊢
      exact h.sh _ _ q
  · rw [upd_ne (ne_of_none q1 hp)]
    exact q2
theorem RVal.tup {ds : List D} {Q : VK} {vs : List V} {p : Addr} (k : RVal K G μ F S σ ρ .d (.tup ds) Q) (h : EnvOk K G F S H μ σ ρ) (q : DatL K G S vs ds) (hp : H p = none) : Q (.ref p) (upd H p (.tup vs)) := by
  obtain ⟨e, h'⟩ := h.alloc (o := .tup vs) hp
  exact k.dat e h' (.tup (Or.inl (Or.inl upd_same)) (q.mono e))
theorem RVal.lst {ds : List D} {Q : VK} {vs : List V} {p : Addr} (k : RVal K G μ F S σ ρ .d (.lst ds) Q) (h : EnvOk K G F S H μ σ ρ) (q : DatL K G S vs ds) (hp : H p = none) : Q (.ref p) (upd H p (.lst vs)) := by
  obtain ⟨e, h'⟩ := h.alloc (o := .lst vs) hp
  exact k.dat e h' (.lst upd_same (q.mono e))
theorem RVal.lstO {ds : List D} {Q : VK} {vs : List V} {p : Addr} (k : RVal K G μ F S σ ρ .o (.lst ds) Q) (h : EnvOk K G F S H μ σ ρ) (q : DatL K G S vs ds) (hp : H p = none) : Q (.ref p) (upd H p (.lst vs)) :=
  k _ _ _ (Evl.Ex.refl S) (h.pushO hp (.lst upd_same q.ownL))
/-- a new list, frozen or owned -/
theorem RVal.new {ds : List D} {Q : VK} {vs : List V} {p : Addr} (hr : r = .d ∨ r = .o) (k : RVal K G μ F S σ ρ r (.lst ds) Q) (h : EnvOk K G F S H μ σ ρ) (q : DatL K G S vs ds) (hp : H p = none) : Q (.ref p) (upd H p (.lst vs)) := by
  rcases hr with rfl | rfl
  · exact k.lst h q hp
  · exact k.lstO h q hp
/-- operations by values -/
def OpD (K : PySem.W.Frag) (G : Cl) (rm : Mode) (t : R2) (f : D → D → Option D) : Prop := ∀ F S H μ σ ρ x y dx dy z, EnvOk K G F S H μ σ ρ → Dat K G S x dx → Dat K G S y dy → f dx dy = some z → ∀ Q : VK, RVal K G μ F S σ ρ rm z Q → t x y H Q
def OpB (K : PySem.W.Frag) (G : Cl) (t : R2) (f : D → D → Option Bool) : Prop := ∀ F S H μ σ ρ x y dx dy b, EnvOk K G F S H μ σ ρ → Dat K G S x dx → Dat K G S y dy → f dx dy = some b → ∀ Q : VK, Q (.bl b) H → t x y H Q
def UnD (K : PySem.W.Frag) (G : Cl) (t : V → Hp → VK → Prop) (f : D → Option D) : Prop := ∀ F S H μ σ ρ x dx z, EnvOk K G F S H μ σ ρ → Dat K G S x dx → f dx = some z → ∀ Q : VK, RVal K G μ F S σ ρ .d z Q → t x H Q
def CallD (K : PySem.W.Frag) (G : Cl) (rm : Mode) (t : List V → Hp → VK → Prop) (f : List D → Option D) : Prop := ∀ F S H μ σ ρ vs ds z, EnvOk K G F S H μ σ ρ → DatL K G S vs ds → f ds = some z → ∀ Q : VK, RVal K G μ F S σ ρ rm z Q → t vs H Q
theorem OpD.or {rm : Mode} {t u : R2} {f g : D → D → Option D} (h1 : OpD K G rm t f) (h2 : OpD K G rm u g) : OpD K G rm (fun x y H Q => t x y H Q ∨ u x y H Q) (fun x y => match f x y with | some z => some z | none => g x y) := by
  intro F S H μ σ ρ x y dx dy z h q1 q2 e Q k
  dsimp only at e
  cases e1 : f dx dy with
  | some z' =>
    rw [e1] at e
    cases e
    exact .inl (h1 F S H μ σ ρ x y dx dy _ h q1 q2 e1 Q k)
  | none =>
    rw [e1] at e
    exact .inr (h2 F S H μ σ ρ x y dx dy _ h q1 q2 e Q k)
theorem OpB.or {t u : R2} {f g : D → D → Option Bool} (h1 : OpB K G t f) (h2 : OpB K G u g) : OpB K G (fun x y H Q => t x y H Q ∨ u x y H Q) (fun x y => match f x y with | some z => some z | none => g x y) := by
  intro F S H μ σ ρ x y dx dy z h q1 q2 e Q k
  dsimp only at e
  cases e1 : f dx dy with
  | some z' =>
    rw [e1] at e
    cases e
    exact .inl (h1 F S H μ σ ρ x y dx dy _ h q1 q2 e1 Q k)
  | none =>
    rw [e1] at e
    exact .inr (h2 F S H μ σ ρ x y dx dy _ h q1 q2 e Q k)
theorem CallD.or {rm : Mode} {t u : List V → Hp → VK → Prop} {f g : List D → Option D} (h1 : CallD K G rm t f) (h2 : CallD K G rm u g) : CallD K G rm (fun x H Q => t x H Q ∨ u x H Q) (fun x => match f x with | some z => some z | none => g x) := by
  intro F S H μ σ ρ x dx z h q1 e Q k
  dsimp only at e
  cases e1 : f dx with
  | some z' =>
    rw [e1] at e
    cases e
    exact .inl (h1 F S H μ σ ρ x dx _ h q1 e1 Q k)
  | none =>
    rw [e1] at e
    exact .inr (h2 F S H μ σ ρ x dx _ h q1 e Q k)
end

section
variable {X : Cx} {G : Cl} {E : XS} {C : SC} {μ μ' μ1 : List Mode} {r : Mode}
/-! ### names, constants -/
def mVar (i : Nat) : ME := fun ρ => .ok (ρ.getD i .non) ρ
theorem je_var (i : Nat) {x : Str} {pos : Pos} (e : μ[i]? = some .d := by rfl) (hN : X.N[i]? = some x := by rfl) (hv : Vis X.env.scope x := by first | exact Or.inl rfl | exact Or.inr (Or.inl rfl) | exact Or.inr (Or.inr rfl)) (hd : (x == ("__debug__" : Str)) = false := by decide)
    (hcd : (x == ("__classdict__" : Str)) = false := by decide) : JE X G E .d μ (.Name x pos) (mVar i) :=
  ⟨_, pe_var hN hv hd hcd, fun F S H σ ρ h Q k => by
    obtain ⟨v, q1, q2⟩ := h.var e
    exact ⟨v, q1, k v S H (Evl.Ex.refl S) (h.push q2)⟩⟩
def mC (d : D) : ME := fun ρ => .ok d ρ
theorem je_int {i j pos} : JE X G E .d μ (.Constant (.int i) j pos) (mC (.int i)) := ⟨_, pe_int, fun F S H σ ρ h Q k => k _ S H (Evl.Ex.refl S) (h.push (.int i))⟩
theorem je_bl {b j pos} : JE X G E .d μ (.Constant (.bool b) j pos) (mC (.bl b)) := ⟨_, pe_bl, fun F S H σ ρ h Q k => k _ S H (Evl.Ex.refl S) (h.push (.bl b))⟩
theorem je_non {j pos} : JE X G E .d μ (.Constant .none j pos) (mC .non) := ⟨_, pe_non, fun F S H σ ρ h Q k => k _ S H (Evl.Ex.refl S) (h.push .non)⟩
theorem je_str {x j pos} : JE X G E .d μ (.Constant (.str x) j pos) (mC (.str x)) := ⟨_, pe_str, fun F S H σ ρ h Q k => k _ S H (Evl.Ex.refl S) (h.push (.str x))⟩
/-- a module's constant -/
theorem je_glob {x : Str} {v : V} {u : Value} {d : D} {pos : Pos} (hg : Gl X x) (hm : X.mg x = some u) (rv : RelV v u) (q : ∀ S, Dat X.K G S v d) (hd : (x == ("__debug__" : Str)) = false := by decide) : JE X G E .d μ (.Name x pos) (mC d) :=
  ⟨_, pe_glob hg hm rv hd, fun F S H σ ρ h Q k => k _ S H (Evl.Ex.refl S) (h.push (q S))⟩

/-! ### operators -/
def mOp (f : D → D → Option D) (a b : ME) : ME := fun ρ => (a ρ).bind fun x ρ1 => (b ρ1).bind fun y ρ2 => RR.of (f x y) ρ2
theorem se_op {K : PySem.W.Frag} {t : R2} {f : D → D → Option D} {ta tb : TE} {a b : ME} (hd : OpD K G r t f) (s1 : SE K G E .d μ ta a) (s2 : SE K G E .d μ tb b) : SE K G E r μ (tOp t ta tb) (mOp f a b) := by
  intro F S H σ ρ h Q k
  refine s1 F S H σ ρ h _ ?_
  unfold mOp at k
  cases q : a ρ with
  | ok x ρ1 =>
    rw [q] at k
    intro v S1 H1 e1 h1
    refine s2 F S1 H1 σ ρ1 h1.tail _ ?_
    have k2 := EOk.mono e1 k
    rw [bind_ok] at k2
    cases q2 : b ρ1 with
    | ok y ρ2 =>
      rw [q2, bind_ok] at k2
      intro w S2 H2 e2 h2
      cases q3 : f x y with
      | some z =>
        rw [q3] at k2
        exact hd F S2 H2 μ σ ρ2 v w x y z h2.tail (h1.head.mono e2) h2.head q3 Q fun u S3 H3 e3 h3 => k2 u S3 H3 (e2.trans e3) h3
      | none =>
        rw [q3] at k2
        exact k2.elim
    | exc e ρ2 => rw [q2] at k2; exact k2
    | bad => rw [q2] at k2; exact k2
  | exc e ρ1 => rw [q] at k; exact k
  | bad => rw [q] at k; exact k
theorem je_op {op : Operator} {t : R2} {f : D → D → Option D} {a b : Expr} {ma mb : ME} {pos : Pos} (ho : OpR X (binaryOp op) t) (hd : OpD X.K G r t f) (ha : JE X G E .d μ a ma) (hb : JE X G E .d μ b mb) : JE X G E r μ (.BinOp a op b pos) (mOp f ma mb) := by
  obtain ⟨t1, p1, s1⟩ := ha.ex
  obtain ⟨t2, p2, s2⟩ := hb.ex
  exact ⟨_, pe_op ho p1 p2, se_op hd s1 s2⟩
/-- ints -/
def CMulX (i j : Int) : Prop := i.natAbs.log2 + j.natAbs.log2 < 134000000
instance {i j : Int} : Decidable (CMulX i j) := by unfold CMulX; infer_instance
theorem CMulX.ok {i j : Int} (h : CMulX i j) : IntMulOk i j := by
  have b : ∀ x : Int, Builtin.Int.intBits x ≤ x.natAbs.log2 + 1 := fun x => by
    unfold Builtin.Int.intBits
    split <;> omega
  have h1 := b i
  have h2 := b j
  have h3 : i.natAbs.log2 + j.natAbs.log2 < 134000000 := h
  have e : bitsLine = 134217728 := by decide
  unfold IntMulOk
  intro z
  rw [Bool.and_eq_true] at z
  have z2 := z.2
  unfold Builtin.Int.intTooBig at z2
  have z3 := of_decide_eq_true z2
  rw [e] at z3
  omega
theorem op_mulX : OpR X (binaryOp .Mult) (rI CMulX fun i j => .int (i * j)) := opI fun _ _ _ _ _ _ _ hc q => mul_int q hc.ok
def CDivX (i j : Int) : Prop := j ≠ 0 ∧ Builtin.divisionGoesByPylong i j = false
instance {i j : Int} : Decidable (CDivX i j) := by unfold CDivX; infer_instance
theorem op_fdivX : OpR X (binaryOp .FloorDiv) (rI CDivX fun i j => .int (i.fdiv j)) := opI fun _ _ _ _ _ _ _ hc q => floordiv_int hc.1 q (.inl hc.2)
def fInt (g : Int → Int → Int) : D → D → Option D
  | .int i, .int j => some (.int (g i j))
  | _, _ => none
def fIntC (c : Int → Int → Prop) [∀ i j, Decidable (c i j)] (g : Int → Int → Int) : D → D → Option D
  | .int i, .int j => if c i j then some (.int (g i j)) else none
  | _, _ => none
theorem opd_int {K : PySem.W.Frag} {g : Int → Int → Int} : OpD K G .d (rI0 fun i j => .int (g i j)) (fInt g) := by
  intro F S H μ σ ρ x y dx dy z h q1 q2 e Q k
  unfold fInt at e
  split at e
  · cases e
    cases q1
    cases q2
    exact ⟨_, _, rfl, rfl, k.dat (Evl.Ex.refl S) h (.int _)⟩
  · cases e
theorem opd_intC {K : PySem.W.Frag} {c : Int → Int → Prop} [∀ i j, Decidable (c i j)] {g : Int → Int → Int} : OpD K G .d (rI c fun i j => .int (g i j)) (fIntC c g) := by
  intro F S H μ σ ρ x y dx dy z h q1 q2 e Q k
  unfold fIntC at e
  split at e
  · split at e
    · cases e
      cases q1
      cases q2
      exact ⟨_, _, rfl, rfl, by assumption, k.dat (Evl.Ex.refl S) h (.int _)⟩
    · cases e
  · cases e
def fStrAdd : D → D → Option D
  | .str a, .str b => if a.length + b.length ≤ sizeLine then some (.str (a ++ b)) else none
  | _, _ => none
theorem opd_str {K : PySem.W.Frag} : OpD K G .d (fun x y H Q => ∃ i j, x = .str i ∧ y = .str j ∧ i.length + j.length ≤ sizeLine ∧ Q (.str (i ++ j)) H) fStrAdd := by
  intro F S H μ σ ρ x y dx dy z h q1 q2 e Q k
  unfold fStrAdd at e
  split at e
  · split at e
    · cases e
      cases q1
      cases q2
      exact ⟨_, _, rfl, rfl, by assumption, k.dat (Evl.Ex.refl S) h (.str _)⟩
    · cases e
  · cases e
def fTupAdd : D → D → Option D
  | .tup a, .tup b => if a.isEmpty = false ∧ b.isEmpty = false ∧ a.length + b.length ≤ sizeLine then some (.tup (a ++ b)) else none
  | _, _ => none
theorem opd_tup {K : PySem.W.Frag} : OpD K G .d (rCatT K) fTupAdd := by
  intro F S H μ σ ρ x y dx dy z h q1 q2 e Q k
  unfold fTupAdd at e
  split at e
  · rename_i da db
    split at e
    · rename_i hc
      obtain ⟨c1, c2, c3⟩ := hc
      cases e
      cases q1 with
      | tup a1 a2 =>
        cases q2 with
        | tup b1 b2 =>
          have l1 := a2.length
          have l2 := b2.length
          refine ⟨_, _, _, _, rfl, rfl, Evl.ex_t h.sh a1, Evl.ex_t h.sh b1, ?_, by omega, fun z => ?_, fun _ p hp => k.tup h (a2.append b2) hp⟩
          · intro z
            subst z
            cases a2
            simp at c1
          · subst z
            cases b2
            simp at c2
    · cases e
  · cases e
def fLstAdd : D → D → Option D
  | .lst a, .lst b => if a.length + b.length ≤ sizeLine then some (.lst (a ++ b)) else none
  | _, _ => none
theorem opd_lst {K : PySem.W.Frag} (hr : r = .d ∨ r = .o) : OpD K G r rCat fLstAdd := by
  intro F S H μ σ ρ x y dx dy z h q1 q2 e Q k
  unfold fLstAdd at e
  split at e
  · rename_i da db
    split at e
    · cases e
      cases q1 with
      | lst a1 a2 =>
        cases q2 with
        | lst b1 b2 =>
          have l1 := a2.length
          have l2 := b2.length
          exact ⟨_, _, _, _, rfl, rfl, h.sh _ _ a1, h.sh _ _ b1, by omega, fun p hp => k.new hr h (a2.append b2) hp⟩
    · cases e
  · cases e
/-- + of ints, texts, tuples, lists -/
def fAdd : D → D → Option D
  | .int i, .int j => some (.int (i + j))
  | .str a, .str b => fStrAdd (.str a) (.str b)
  | .tup a, .tup b => fTupAdd (.tup a) (.tup b)
  | .lst a, .lst b => fLstAdd (.lst a) (.lst b)
  | _, _ => none
def rAddAll (K : PySem.W.Frag) : R2 := fun x y H Q => (rI0 fun i j => .int (i + j)) x y H Q ∨ (∃ i j, x = .str i ∧ y = .str j ∧ i.length + j.length ≤ sizeLine ∧ Q (.str (i ++ j)) H) ∨ rCatT K x y H Q ∨ rCat x y H Q
theorem op_addAll : OpR X (binaryOp .Add) (rAddAll X.K) := op_add.or (op_add_str.or (op_catT.or op_cat))
theorem opd_add {K : PySem.W.Frag} : OpD K G .d (rAddAll K) fAdd := by
  intro F S H μ σ ρ x y dx dy z h q1 q2 e Q k
  unfold fAdd at e
  split at e
  · exact .inl (opd_int F S H μ σ ρ x y _ _ z h q1 q2 e Q k)
  · exact .inr (.inl (opd_str F S H μ σ ρ x y _ _ z h q1 q2 e Q k))
  · exact .inr (.inr (.inl (opd_tup F S H μ σ ρ x y _ _ z h q1 q2 e Q k)))
  · exact .inr (.inr (.inr (opd_lst (.inl rfl) F S H μ σ ρ x y _ _ z h q1 q2 e Q k)))
  · cases e
theorem je_add {a b : Expr} {ma mb : ME} {pos : Pos} (ha : JE X G E .d μ a ma) (hb : JE X G E .d μ b mb) : JE X G E .d μ (.BinOp a .Add b pos) (mOp fAdd ma mb) := je_op op_addAll opd_add ha hb
theorem je_addO {a b : Expr} {ma mb : ME} {pos : Pos} (ha : JE X G E .d μ a ma) (hb : JE X G E .d μ b mb) : JE X G E .o μ (.BinOp a .Add b pos) (mOp fLstAdd ma mb) := je_op op_cat (opd_lst (.inr rfl)) ha hb
theorem je_sub {a b : Expr} {ma mb : ME} {pos : Pos} (ha : JE X G E .d μ a ma) (hb : JE X G E .d μ b mb) : JE X G E .d μ (.BinOp a .Sub b pos) (mOp (fInt (· - ·)) ma mb) := je_op op_sub opd_int ha hb
theorem je_mul {a b : Expr} {ma mb : ME} {pos : Pos} (ha : JE X G E .d μ a ma) (hb : JE X G E .d μ b mb) : JE X G E .d μ (.BinOp a .Mult b pos) (mOp (fIntC CMulX (· * ·)) ma mb) := je_op op_mulX opd_intC ha hb
theorem je_div {a b : Expr} {ma mb : ME} {pos : Pos} (ha : JE X G E .d μ a ma) (hb : JE X G E .d μ b mb) : JE X G E .d μ (.BinOp a .FloorDiv b pos) (mOp (fIntC CDivX Int.fdiv) ma mb) := je_op op_fdivX opd_intC ha hb
def CModX (_ j : Int) : Prop := j ≠ 0
instance {i j : Int} : Decidable (CModX i j) := by unfold CModX; infer_instance
theorem je_mod {a b : Expr} {ma mb : ME} {pos : Pos} (ha : JE X G E .d μ a ma) (hb : JE X G E .d μ b mb) : JE X G E .d μ (.BinOp a .Mod b pos) (mOp (fIntC CModX Int.fmod) ma mb) := je_op (r := .d) (t := rI CModX fun i j => .int (i.fmod j)) op_modN opd_intC ha hb
instance {i j : Int} : Decidable (CPow i j) := by unfold CPow; infer_instance
theorem je_pow {a b : Expr} {ma mb : ME} {pos : Pos} (ha : JE X G E .d μ a ma) (hb : JE X G E .d μ b mb) : JE X G E .d μ (.BinOp a .Pow b pos) (mOp (fIntC CPow fun i j => i ^ j.toNat) ma mb) := je_op op_pow opd_intC ha hb
/-- -a -/
def mUn (f : D → Option D) (a : ME) : ME := fun ρ => (a ρ).bind fun x ρ1 => RR.of (f x) ρ1
theorem je_un {op : UnaryOp} {t : V → Hp → VK → Prop} {f : D → Option D} {a : Expr} {ma : ME} {pos : Pos} (ho : UnR X (unaryOp op) t) (hd : UnD X.K G t f) (ha : JE X G E .d μ a ma) : JE X G E .d μ (.UnaryOp op a pos) (mUn f ma) := by
  obtain ⟨t1, p1, s1⟩ := ha.ex
  refine ⟨_, pe_un ho p1, fun F S H σ ρ h Q k => ?_⟩
  refine s1 F S H σ ρ h _ ?_
  unfold mUn at k
  cases q : ma ρ with
  | ok x ρ1 =>
    rw [q, bind_ok] at k
    intro v S1 H1 e1 h1
    cases q3 : f x with
    | some z =>
      rw [q3] at k
      exact hd F S1 H1 μ σ ρ1 v x z h1.tail h1.head q3 Q fun u S3 H3 e3 h3 => k u S3 H3 (e1.trans e3) h3
    | none => rw [q3] at k; exact k.elim
  | exc e ρ1 => rw [q] at k; exact k
  | bad => rw [q] at k; exact k
def fNeg : D → Option D
  | .int i => some (.int (-i))
  | _ => none
theorem je_neg {a : Expr} {ma : ME} {pos : Pos} (ha : JE X G E .d μ a ma) : JE X G E .d μ (.UnaryOp .USub a pos) (mUn fNeg ma) := je_un un_neg (fun F S H μ σ ρ x dx z h q e Q k => by
  unfold fNeg at e
  split at e
  · cases e
    cases q
    exact ⟨_, rfl, k.dat (Evl.Ex.refl S) h (.int _)⟩
  · cases e) ha

/-! ### comparisons -/
def mCmp (f : D → D → Option Bool) (a b : ME) : ME := mOp (fun x y => (f x y).map .bl) a b
def mCmpT (f : D → D → Option Bool) (a b : ME) : MT := fun ρ => (a ρ).bind fun x ρ1 => (b ρ1).bind fun y ρ2 => RR.of (f x y) ρ2
theorem OpB.opd {K : PySem.W.Frag} {t : R2} {f : D → D → Option Bool} (h : OpB K G t f) : OpD K G .d t (fun x y => (f x y).map .bl) := by
  intro F S H μ σ ρ x y dx dy z e q1 q2 q3 Q k
  dsimp only at q3
  cases q : f dx dy with
  | some b =>
    rw [q] at q3
    cases q3
    exact h F S H μ σ ρ x y dx dy b e q1 q2 q Q (k.dat (Evl.Ex.refl S) e (.bl b))
  | none => rw [q] at q3; cases q3
theorem je_cmp {op : CmpOp} {t : R2} {f : D → D → Option Bool} {a b : Expr} {ma mb : ME} {pos : Pos} (ho : OpR X (compareOp op) t) (hd : OpB X.K G t f) (ha : JE X G E .d μ a ma) (hb : JE X G E .d μ b mb)
    (hm : behindInMarks op b = false := by first | rfl | exact nomark _) : JE X G E .d μ (.Compare a [op] [b] pos) (mCmp f ma mb) := by
  obtain ⟨t1, p1, s1⟩ := ha.ex
  obtain ⟨t2, p2, s2⟩ := hb.ex
  exact ⟨_, pe_cmpR ho p1 p2 hm, se_op hd.opd s1 s2⟩
theorem jt_cmp {op : CmpOp} {t : R2} {f : D → D → Option Bool} {a b : Expr} {ma mb : ME} {pos : Pos} (ho : OpR X (compareOp op) t) (hd : OpB X.K G t f) (ha : JE X G E .d μ a ma) (hb : JE X G E .d μ b mb)
    (hm : behindInMarks op b = false := by first | rfl | exact nomark _) : JT X G E μ (.Compare a [op] [b] pos) (mCmpT f ma mb) := by
  obtain ⟨ta, p1, s1⟩ := ha.ex
  obtain ⟨tb, p2, s2⟩ := hb.ex
  refine ⟨_, pt_cmpR ho p1 p2 hm, fun F S H σ ρ h Q k => ?_⟩
  refine s1 F S H σ ρ h _ ?_
  unfold mCmpT at k
  cases q : ma ρ with
  | ok x ρ1 =>
    rw [q] at k
    intro v S1 H1 e1 h1
    refine s2 F S1 H1 σ ρ1 h1.tail _ ?_
    have k2 := TOk.mono e1 k
    rw [bind_ok] at k2
    cases q2 : mb ρ1 with
    | ok y ρ2 =>
      rw [q2, bind_ok] at k2
      intro w S2 H2 e2 h2
      cases q3 : f x y with
      | some z =>
        rw [q3] at k2
        exact hd F S2 H2 μ σ ρ2 v w x y z h2.tail (h1.head.mono e2) h2.head q3 _ ⟨z, rfl, k2 S2 H2 e2 h2.tail⟩
      | none => rw [q3] at k2; exact k2.elim
    | exc e ρ2 => rw [q2] at k2; exact k2
    | bad => rw [q2] at k2; exact k2
  | exc e ρ1 => rw [q] at k; exact k
  | bad => rw [q] at k; exact k
def fLt : D → D → Option Bool
  | .int i, .int j => some (decide (i < j))
  | .str a, .str b => some (decide (a.cps.toList < b.cps.toList))
  | _, _ => none
def fLe : D → D → Option Bool
  | .int i, .int j => some (decide (i ≤ j))
  | .str a, .str b => some (!decide (b.cps.toList < a.cps.toList))
  | _, _ => none
def fGt : D → D → Option Bool
  | .int i, .int j => some (decide (j < i))
  | .str a, .str b => some (decide (b.cps.toList < a.cps.toList))
  | _, _ => none
def fGe : D → D → Option Bool
  | .int i, .int j => some (decide (j ≤ i))
  | .str a, .str b => some (!decide (a.cps.toList < b.cps.toList))
  | _, _ => none
def rIS (p : Int → Int → Bool) (q : Str → Str → Bool) : R2 := fun x y H Q => (rI0 fun i j => .bl (p i j)) x y H Q ∨ ∃ i j, x = .str i ∧ y = .str j ∧ Q (.bl (q i j)) H
theorem opb_lt {K : PySem.W.Frag} : OpB K G (rIS (fun i j => decide (i < j)) fun i j => decide (i.cps.toList < j.cps.toList)) fLt := by
  intro F S H μ σ ρ x y dx dy z e q1 q2 q3 Q k
  unfold fLt at q3
  split at q3 <;> cases q3 <;> cases q1 <;> cases q2
  · exact .inl ⟨_, _, rfl, rfl, k⟩
  · exact .inr ⟨_, _, rfl, rfl, k⟩
theorem opb_le {K : PySem.W.Frag} : OpB K G (rIS (fun i j => decide (i ≤ j)) fun i j => !decide (j.cps.toList < i.cps.toList)) fLe := by
  intro F S H μ σ ρ x y dx dy z e q1 q2 q3 Q k
  unfold fLe at q3
  split at q3 <;> cases q3 <;> cases q1 <;> cases q2
  · exact .inl ⟨_, _, rfl, rfl, k⟩
  · exact .inr ⟨_, _, rfl, rfl, k⟩
theorem opb_gt {K : PySem.W.Frag} : OpB K G (rIS (fun i j => decide (j < i)) fun i j => decide (j.cps.toList < i.cps.toList)) fGt := by
  intro F S H μ σ ρ x y dx dy z e q1 q2 q3 Q k
  unfold fGt at q3
  split at q3 <;> cases q3 <;> cases q1 <;> cases q2
  · exact .inl ⟨_, _, rfl, rfl, k⟩
  · exact .inr ⟨_, _, rfl, rfl, k⟩
theorem opb_ge {K : PySem.W.Frag} : OpB K G (rIS (fun i j => decide (j ≤ i)) fun i j => !decide (i.cps.toList < j.cps.toList)) fGe := by
  intro F S H μ σ ρ x y dx dy z e q1 q2 q3 Q k
  unfold fGe at q3
  split at q3 <;> cases q3 <;> cases q1 <;> cases q2
  · exact .inl ⟨_, _, rfl, rfl, k⟩
  · exact .inr ⟨_, _, rfl, rfl, k⟩
theorem opr_lt : OpR X (compareOp .Lt) (rIS (fun i j => decide (i < j)) fun i j => decide (i.cps.toList < j.cps.toList)) := op_lt.or op_lt_str
theorem opr_le : OpR X (compareOp .LtE) (rIS (fun i j => decide (i ≤ j)) fun i j => !decide (j.cps.toList < i.cps.toList)) := op_le.or op_le_str
theorem opr_gt : OpR X (compareOp .Gt) (rIS (fun i j => decide (j < i)) fun i j => decide (j.cps.toList < i.cps.toList)) := op_gt.or op_gt_str
theorem opr_ge : OpR X (compareOp .GtE) (rIS (fun i j => decide (j ≤ i)) fun i j => !decide (i.cps.toList < j.cps.toList)) := op_ge.or op_ge_str
/-! equality -/
mutual
def toPy : D → Option PyData
  | .non => some .none
  | .bl b => some (.bool b)
  | .int i => some (.int i)
  | .str x => some (.str x)
  | .tup ds => (toPys ds).map .tuple
  | .lst ds => (toPys ds).map .list
  | _ => none
def toPys : List D → Option (List PyData)
  | [] => some []
  | d :: ds => match toPy d, toPys ds with
    | some p, some ps => some (p :: ps)
    | _, _ => none
end
mutual
theorem toPy_dp {K : PySem.W.Frag} {S : Hp} : ∀ {v : V} {d : D} {p : PyData}, Dat K G S v d → toPy d = some p → Dp K S v p
  | _, _, _, .non, e => by simp only [toPy, Option.some.injEq] at e; subst e; exact .non
  | _, _, _, .bl b, e => by simp only [toPy, Option.some.injEq] at e; subst e; exact .bl b
  | _, _, _, .int i, e => by simp only [toPy, Option.some.injEq] at e; subst e; exact .int i
  | _, _, _, .str x, e => by simp only [toPy, Option.some.injEq] at e; subst e; exact .str x
  | _, _, _, .tup h1 h2, e => by
    simp only [toPy, Option.map_eq_some_iff] at e
    obtain ⟨ps, e1, rfl⟩ := e
    exact .tup h1 (toPys_dp h2 e1)
  | _, _, _, .lst h1 h2, e => by
    simp only [toPy, Option.map_eq_some_iff] at e
    obtain ⟨ps, e1, rfl⟩ := e
    exact .lst (Or.inl (Or.inl h1)) (toPys_dp h2 e1)
  | _, _, _, .scr _, e => by simp [toPy] at e
  | _, _, _, .dK _ _ _, e => by simp [toPy] at e
  | _, _, _, .dT _ _ _, e => by simp [toPy] at e
  | _, _, _, .ins _ _ _, e => by simp [toPy] at e
theorem toPys_dp {K : PySem.W.Frag} {S : Hp} : ∀ {vs : List V} {ds : List D} {ps : List PyData}, DatL K G S vs ds → toPys ds = some ps → DpAll K S vs ps
  | _, _, _, .nil, e => by simp only [toPys, Option.some.injEq] at e; subst e; exact .nil
  | _, _, _, .cons (d := d) (ds := ds) h t, e => by
    simp only [toPys] at e
    cases q1 : toPy d with
    | none => rw [q1] at e; cases e
    | some p =>
      cases q2 : toPys ds with
      | none => rw [q1, q2] at e; cases e
      | some ps =>
        rw [q1, q2] at e
        simp only [Option.some.injEq] at e
        subst e
        exact .cons (toPy_dp h q1) (toPys_dp t q2)
end
mutual
theorem dp_mono {K : PySem.W.Frag} {S H : Hp} (e : Ex S H) : ∀ {v : V} {p : PyData}, Dp K S v p → Dp K H v p
  | _, _, .non => .non
  | _, _, .bl b => .bl b
  | _, _, .int b => .int b
  | _, _, .str b => .str b
  | _, _, .lst h t => .lst (Evl.ex_l e h) (dps_mono e t)
  | _, _, .tup h t => .tup (Evl.ex_t e h) (dps_mono e t)
theorem dps_mono {K : PySem.W.Frag} {S H : Hp} (e : Ex S H) : ∀ {v : List V} {p : List PyData}, DpAll K S v p → DpAll K H v p
  | _, _, .nil => .nil
  | _, _, .cons h t => .cons (dp_mono e h) (dps_mono e t)
end
/-- == of data (where the kit's rule serves it) -/
def fEqD (a b : D) : Option Bool := match toPy a, toPy b with
  | some p, some q => if SeqAt.shaped p = true ∧ SeqAt.shaped q = true then some (PyData.eqv p q) else none
  | _, _ => none
def fEq : D → D → Option Bool
  | .int i, .int j => some (decide (i = j))
  | .str a, .str b => some (decide (a = b))
  | .bl a, .bl b => some (decide (a = b))
  | a, b => fEqD a b
def fNe (a b : D) : Option Bool := (fEq a b).map (!·)
def rEqAll (K : PySem.W.Frag) : R2 := fun x y H Q => rEq x y H Q ∨ rEqD K x y H Q
def rNeAll (K : PySem.W.Frag) : R2 := fun x y H Q => rNe x y H Q ∨ rNeD K x y H Q
theorem opb_eq {K : PySem.W.Frag} : OpB K G (rEqAll K) fEq := by
  intro F S H μ σ ρ x y dx dy z e q1 q2 q3 Q k
  unfold fEq at q3
  split at q3
  · cases q3
    cases q1
    cases q2
    refine .inl ⟨rfl, ?_⟩
    simpa using k
  · cases q3
    cases q1
    cases q2
    refine .inl ⟨rfl, ?_⟩
    simpa using k
  · cases q3
    cases q1
    cases q2
    refine .inl ⟨rfl, ?_⟩
    simpa using k
  · unfold fEqD at q3
    split at q3
    · rename_i p q e1 e2
      split at q3
      · rename_i hc
        cases q3
        exact .inr ⟨p, q, dp_mono e.sh (toPy_dp q1 e1), dp_mono e.sh (toPy_dp q2 e2), hc.1, hc.2, k⟩
      · cases q3
    · cases q3
theorem opb_ne {K : PySem.W.Frag} : OpB K G (rNeAll K) fNe := by
  intro F S H μ σ ρ x y dx dy z e q1 q2 q3 Q k
  unfold fNe fEq at q3
  split at q3
  · cases q3
    cases q1
    cases q2
    refine .inl ⟨rfl, ?_⟩
    simpa using k
  · cases q3
    cases q1
    cases q2
    refine .inl ⟨rfl, ?_⟩
    simpa using k
  · cases q3
    cases q1
    cases q2
    refine .inl ⟨rfl, ?_⟩
    simpa using k
  · unfold fEqD at q3
    split at q3
    · rename_i p q e1 e2
      split at q3
      · rename_i hc
        cases q3
        exact .inr ⟨p, q, dp_mono e.sh (toPy_dp q1 e1), dp_mono e.sh (toPy_dp q2 e2), hc.1, hc.2, k⟩
      · cases q3
    · cases q3
theorem opr_eq (hu : X.A.units + 64 < cLine) : OpR X (compareOp .Eq) (rEqAll X.K) := op_eq.or (op_eqD hu)
theorem opr_ne (hu : X.A.units + 64 < cLine) : OpR X (compareOp .NotEq) (rNeAll X.K) := op_ne.or (op_neD hu)
/-! is None -/
def fIsN : D → D → Option Bool
  | .non, .non => some true
  | _, .non => some false
  | _, _ => none
def fNotN (a b : D) : Option Bool := (fIsN a b).map (!·)
theorem opb_isN {K : PySem.W.Frag} : OpB K G (fun x y H Q => y = .non ∧ Q (.bl (decide (x = .non))) H) fIsN := by
  intro F S H μ σ ρ x y dx dy z e q1 q2 q3 Q k
  unfold fIsN at q3
  split at q3
  · cases q3
    cases q1
    cases q2
    exact ⟨rfl, k⟩
  · rename_i hn
    cases q3
    cases q2
    refine ⟨rfl, ?_⟩
    have : decide (x = V.non) = false := by
      apply decide_eq_false
      rintro rfl
      cases q1
      exact hn rfl
    rw [this]
    exact k
  · cases q3
theorem opb_notN {K : PySem.W.Frag} : OpB K G (fun x y H Q => y = .non ∧ Q (.bl (!decide (x = .non))) H) fNotN := by
  intro F S H μ σ ρ x y dx dy z e q1 q2 q3 Q k
  unfold fNotN at q3
  cases q : fIsN dx dy with
  | none => rw [q] at q3; cases q3
  | some b =>
    rw [q] at q3
    cases q3
    obtain ⟨z1, z2⟩ := opb_isN F S H μ σ ρ x y dx dy b e q1 q2 q (fun v H' => ∃ c, v = .bl c ∧ Q (.bl (!c)) H') ⟨b, rfl, k⟩
    obtain ⟨c, z3, z4⟩ := z2
    cases z3
    exact ⟨z1, z4⟩
/-! in -/
def flatD : D → Bool
  | .non => true
  | .bl _ => true
  | .int _ => true
  | .str _ => true
  | _ => false
def eqF : D → D → Bool
  | .non, .non => true
  | .bl a, .bl b => a == b
  | .bl a, .int b => (if a then 1 else 0) == b
  | .int a, .bl b => a == (if b then 1 else 0)
  | .int a, .int b => a == b
  | .str a, .str b => a == b
  | _, _ => false
theorem flat_of {K : PySem.W.Frag} {S : Hp} {v : V} {d : D} (h : Dat K G S v d) (f : flatD d = true) : flatV v = true := by
  cases h <;> first | rfl | (simp [flatD] at f)
theorem flats_of {K : PySem.W.Frag} {S : Hp} : ∀ {vs : List V} {ds : List D}, DatL K G S vs ds → ds.all flatD = true → vs.all flatV = true
  | _, _, .nil, _ => rfl
  | _, _, .cons h t, f => by
    simp only [List.all_cons, Bool.and_eq_true] at f ⊢
    exact ⟨flat_of h f.1, flats_of t f.2⟩
theorem eqV_of {K : PySem.W.Frag} {S : Hp} {v w : V} {d e : D} (h : Dat K G S v d) (h2 : Dat K G S w e) (f : flatD d = true) (f2 : flatD e = true) : eqV v w = eqF d e := by
  cases h <;> first | (simp [flatD] at f; done) | skip
  all_goals (cases h2 <;> first | (simp [flatD] at f2; done) | rfl)
theorem inV_of {K : PySem.W.Frag} {S : Hp} {v : V} {d : D} (h : Dat K G S v d) (f : flatD d = true) : ∀ {vs : List V} {ds : List D}, DatL K G S vs ds → ds.all flatD = true → inV v vs = ds.any fun y => eqF y d
  | _, _, .nil, _ => rfl
  | _, _, .cons q t, g => by
    simp only [List.all_cons, Bool.and_eq_true] at g
    have := inV_of h f t g.2
    unfold inV at this ⊢
    simp only [List.any_cons]
    rw [eqV_of q h g.1 f, this]
def fIn : D → D → Option Bool
  | x, .lst ds => if flatD x = true ∧ ds.all flatD = true then some (ds.any fun y => eqF y x) else none
  | x, .tup ds => if flatD x = true ∧ ds.all flatD = true then some (ds.any fun y => eqF y x) else none
  | .str a, .str z => if a.cps.size = 1 then some (decide (a.cps.getD 0 0 ∈ z.cps.toList)) else none
  | _, _ => none
theorem str_one {a : Str} (h : a.cps.size = 1) : a = ⟨#[a.cps.getD 0 0]⟩ := by
  obtain ⟨cps⟩ := a
  obtain ⟨l⟩ := cps
  match l, h with
  | [c], _ => rfl
def fNotIn (a b : D) : Option Bool := (fIn a b).map (!·)
def rInAll (K : PySem.W.Frag) : R2 := fun x y H Q => rIn K false x y H Q ∨ ∃ (c : Nat) (z : Str), x = .str ⟨#[c]⟩ ∧ y = .str z ∧ Q (.bl (decide (c ∈ z.cps.toList))) H
def rNotInAll (K : PySem.W.Frag) : R2 := fun x y H Q => rIn K true x y H Q ∨ ∃ (c : Nat) (z : Str), x = .str ⟨#[c]⟩ ∧ y = .str z ∧ Q (.bl (!decide (c ∈ z.cps.toList))) H
theorem opb_in {K : PySem.W.Frag} : OpB K G (rInAll K) fIn := by
  intro F S H μ σ ρ x y dx dy z e q1 q2 q3 Q k
  unfold fIn at q3
  split at q3
  · split at q3
    · rename_i hc
      cases q3
      cases q2 with
      | lst a1 a2 => exact .inl ⟨_, _, rfl, .inl (Or.inl (Or.inl (e.sh _ _ a1))), flat_of q1 hc.1, flats_of a2 hc.2, by rw [if_neg Bool.false_ne_true, inV_of q1 hc.1 a2 hc.2]; exact k⟩
    · cases q3
  · split at q3
    · rename_i hc
      cases q3
      cases q2 with
      | tup a1 a2 => exact .inl ⟨_, _, rfl, .inr (Evl.ex_t e.sh a1), flat_of q1 hc.1, flats_of a2 hc.2, by rw [if_neg Bool.false_ne_true, inV_of q1 hc.1 a2 hc.2]; exact k⟩
    · cases q3
  · split at q3
    · rename_i hc
      cases q3
      cases q1
      cases q2
      exact .inr ⟨_, _, congrArg V.str (str_one hc), rfl, k⟩
    · cases q3
  · cases q3
theorem opb_notIn {K : PySem.W.Frag} : OpB K G (rNotInAll K) fNotIn := by
  intro F S H μ σ ρ x y dx dy z e q1 q2 q3 Q k
  unfold fNotIn fIn at q3
  split at q3
  · split at q3
    · rename_i hc
      cases q3
      cases q2 with
      | lst a1 a2 => exact .inl ⟨_, _, rfl, .inl (Or.inl (Or.inl (e.sh _ _ a1))), flat_of q1 hc.1, flats_of a2 hc.2, by rw [if_pos rfl, inV_of q1 hc.1 a2 hc.2]; exact k⟩
    · cases q3
  · split at q3
    · rename_i hc
      cases q3
      cases q2 with
      | tup a1 a2 => exact .inl ⟨_, _, rfl, .inr (Evl.ex_t e.sh a1), flat_of q1 hc.1, flats_of a2 hc.2, by rw [if_pos rfl, inV_of q1 hc.1 a2 hc.2]; exact k⟩
    · cases q3
  · split at q3
    · rename_i hc
      cases q3
      cases q1
      cases q2
      exact .inr ⟨_, _, congrArg V.str (str_one hc), rfl, k⟩
    · cases q3
  · cases q3
theorem opr_in : OpR X (compareOp .In) (rInAll X.K) := op_in_seq.or op_in_sign
theorem opr_notIn : OpR X (compareOp .NotIn) (rNotInAll X.K) := op_notIn_seq.or op_notIn_sign
end
end MR

set_option Elab.async false
set_option linter.all false
set_option maxRecDepth 100000
set_option maxHeartbeats 1000000
/-! MB4: tests, arguments, displays, subscripts, slices, calls of builtins. -/
namespace MR
open PySem L2 PyProof.Rows
section
variable {X : Cx} {G : Cl} {E : XS} {C : SC} {μ μ' μ1 : List Mode} {r : Mode}

/-! ### tests -/
theorem jw_pt {e : Expr} {m : MT} (h : JW X G E μ e m) : JT X G E μ e m := let ⟨t, p, s⟩ := h.ex; ⟨t, p.pt, s⟩
theorem jw_and1 {a : Expr} {m : MT} {pos : Pos} (h : JT X G E μ a m) : JW X G E μ (.BoolOp .And [a] pos) m := let ⟨t, p, s⟩ := h.ex; ⟨t, pw_and1 p, s⟩
theorem jw_or1 {a : Expr} {m : MT} {pos : Pos} (h : JT X G E μ a m) : JW X G E μ (.BoolOp .Or [a] pos) m := let ⟨t, p, s⟩ := h.ex; ⟨t, pw_or1 p, s⟩
def mAnd (a b : MT) : MT := fun ρ => (a ρ).bind fun x ρ1 => if x = true then b ρ1 else .ok false ρ1
def mOr (a b : MT) : MT := fun ρ => (a ρ).bind fun x ρ1 => if x = true then .ok true ρ1 else b ρ1
def mNot (a : MT) : MT := fun ρ => (a ρ).bind fun x ρ1 => .ok (!x) ρ1
theorem jw_and {a b : Expr} {rest : List Expr} {ma mb : MT} {pos : Pos} (ha : JT X G E μ a ma) (hb : JW X G E μ (.BoolOp .And (b :: rest) pos) mb) : JW X G E μ (.BoolOp .And (a :: b :: rest) pos) (mAnd ma mb) := by
  obtain ⟨t1, p1, s1⟩ := ha.ex
  obtain ⟨t2, p2, s2⟩ := hb.ex
  refine ⟨_, pw_and p1 p2, fun F S H σ ρ h Q k => s1 F S H σ ρ h _ ?_⟩
  unfold mAnd at k
  cases q : ma ρ with
  | ok x ρ1 =>
    rw [q, bind_ok] at k
    intro S1 H1 e1 h1
    cases x with
    | true =>
      rw [if_pos rfl] at k ⊢
      exact s2 F S1 H1 σ ρ1 h1 Q (TOk.mono e1 k)
    | false =>
      rw [if_neg Bool.false_ne_true] at k ⊢
      exact k S1 H1 e1 h1
  | exc e ρ1 => rw [q] at k; exact k
  | bad => rw [q] at k; exact k
theorem jw_or {a b : Expr} {rest : List Expr} {ma mb : MT} {pos : Pos} (ha : JT X G E μ a ma) (hb : JW X G E μ (.BoolOp .Or (b :: rest) pos) mb) : JW X G E μ (.BoolOp .Or (a :: b :: rest) pos) (mOr ma mb) := by
  obtain ⟨t1, p1, s1⟩ := ha.ex
  obtain ⟨t2, p2, s2⟩ := hb.ex
  refine ⟨_, pw_or p1 p2, fun F S H σ ρ h Q k => s1 F S H σ ρ h _ ?_⟩
  unfold mOr at k
  cases q : ma ρ with
  | ok x ρ1 =>
    rw [q, bind_ok] at k
    intro S1 H1 e1 h1
    cases x with
    | true =>
      rw [if_pos rfl] at k ⊢
      exact k S1 H1 e1 h1
    | false =>
      rw [if_neg Bool.false_ne_true] at k ⊢
      exact s2 F S1 H1 σ ρ1 h1 Q (TOk.mono e1 k)
  | exc e ρ1 => rw [q] at k; exact k
  | bad => rw [q] at k; exact k
theorem jt_not {a : Expr} {ma : MT} {pos : Pos} (ha : JT X G E μ a ma) : JT X G E μ (.UnaryOp .Not a pos) (mNot ma) := by
  obtain ⟨t1, p1, s1⟩ := ha.ex
  refine ⟨_, pt_not p1, fun F S H σ ρ h Q k => s1 F S H σ ρ h _ ?_⟩
  unfold mNot at k
  cases q : ma ρ with
  | ok x ρ1 => rw [q, bind_ok] at k; exact k
  | exc e ρ1 => rw [q] at k; exact k
  | bad => rw [q] at k; exact k
/-- the truth of data -/
def truth : D → Option Bool
  | .non => some false
  | .bl b => some b
  | .int i => some (i != 0)
  | .str s => if s.length ≤ sizeLine then some ((s.length : Int) != 0) else none
  | .lst ds => some (!ds.isEmpty)
  | .tup ds => some (!ds.isEmpty)
  | .scr ds => some (!ds.isEmpty)
  | _ => none
theorem truth_ok {K : PySem.W.Frag} {S H : Hp} (e : Ex S H) {v : V} {d : D} {b : Bool} (h : Dat K G S v d) (q : truth d = some b) : TruV K v H b := by
  have emp : ∀ {vs : List V} {ds : List D}, DatL K G S vs ds → vs.isEmpty = ds.isEmpty := fun h => by cases h <;> rfl
  cases h with
  | non => cases q; rfl
  | bl b => cases q; rfl
  | int i => cases q; rfl
  | str s =>
    have q' : (if s.length ≤ sizeLine then some ((s.length : Int) != 0) else none) = some b := q
    split at q'
    · cases q'
      exact ⟨by assumption, rfl⟩
    · cases q'
  | lst h1 h2 => cases q; exact .inl ⟨_, .inl (.inl (e _ _ h1)), by rw [emp h2]⟩
  | tup h1 h2 => cases q; exact .inr (.inl ⟨_, Evl.ex_t e h1, by rw [emp h2]⟩)
  | scr h1 => cases q; exact .inl ⟨_, Evl.ex_l e h1, by rw [List.isEmpty_map]⟩
  | dK _ _ _ => cases q
  | dT _ _ _ => cases q
  | ins _ _ _ => cases q
def mTr (a : ME) : MT := fun ρ => (a ρ).bind fun x ρ1 => RR.of (truth x) ρ1
theorem jt_tr {a : Expr} {ma : ME} (ha : JE X G E .d μ a ma) (he : ∀ whole, isTrue a X.env whole = (do let v ← whole; standAt a.pos; holding [v] (truthy v)) := by intro _; rfl) : JT X G E μ a (mTr ma) := by
  obtain ⟨t1, p1, s1⟩ := ha.ex
  refine ⟨_, pt_truth p1 he, fun F S H σ ρ h Q k => s1 F S H σ ρ h _ ?_⟩
  unfold mTr at k
  cases q : ma ρ with
  | ok x ρ1 =>
    rw [q, bind_ok] at k
    cases q2 : truth x with
    | some b =>
      rw [q2] at k
      exact fun v S1 H1 e1 h1 => ⟨b, truth_ok h1.sh h1.head q2, k S1 H1 e1 h1.tail⟩
    | none => rw [q2] at k; exact k.elim
  | exc e ρ1 => rw [q] at k; exact k
  | bad => rw [q] at k; exact k
/-- .. as values: bools -/
def mAndV (a b : ME) : ME := fun ρ => (a ρ).bind fun x ρ1 => match x with
  | .bl true => b ρ1
  | .bl false => .ok (.bl false) ρ1
  | _ => .bad
def mOrV (a b : ME) : ME := fun ρ => (a ρ).bind fun x ρ1 => match x with
  | .bl true => .ok (.bl true) ρ1
  | .bl false => b ρ1
  | _ => .bad
def fNotV : D → Option D
  | .bl b => some (.bl (!b))
  | _ => none
theorem je_one {op} {a : Expr} {m : ME} {pos : Pos} (h : JE X G E r μ a m) : JE X G E r μ (.BoolOp op [a] pos) m := let ⟨t, p, s⟩ := h.ex; ⟨t, pe_one p, s⟩
theorem je_and {a b : Expr} {rest : List Expr} {ma mb : ME} {pos : Pos} (ha : JE X G E .d μ a ma) (hb : JE X G E .d μ (.BoolOp .And (b :: rest) pos) mb) : JE X G E .d μ (.BoolOp .And (a :: b :: rest) pos) (mAndV ma mb) := by
  obtain ⟨t1, p1, s1⟩ := ha.ex
  obtain ⟨t2, p2, s2⟩ := hb.ex
  refine ⟨_, pe_and p1 p2, fun F S H σ ρ h Q k => s1 F S H σ ρ h _ ?_⟩
  unfold mAndV at k
  cases q : ma ρ with
  | ok x ρ1 =>
    rw [q, bind_ok] at k
    intro v S1 H1 e1 h1
    have hd := h1.head
    split at k
    · cases hd
      exact ⟨true, rfl, by rw [if_pos rfl]; exact s2 F S1 H1 σ ρ1 h1.tail Q (EOk.mono e1 k)⟩
    · cases hd
      exact ⟨false, rfl, by rw [if_neg Bool.false_ne_true]; exact k _ S1 H1 e1 (h1.tail.push (.bl false))⟩
    · exact k.elim
  | exc e ρ1 => rw [q] at k; exact k
  | bad => rw [q] at k; exact k
theorem je_or {a b : Expr} {rest : List Expr} {ma mb : ME} {pos : Pos} (ha : JE X G E .d μ a ma) (hb : JE X G E .d μ (.BoolOp .Or (b :: rest) pos) mb) : JE X G E .d μ (.BoolOp .Or (a :: b :: rest) pos) (mOrV ma mb) := by
  obtain ⟨t1, p1, s1⟩ := ha.ex
  obtain ⟨t2, p2, s2⟩ := hb.ex
  refine ⟨_, pe_or p1 p2, fun F S H σ ρ h Q k => s1 F S H σ ρ h _ ?_⟩
  unfold mOrV at k
  cases q : ma ρ with
  | ok x ρ1 =>
    rw [q, bind_ok] at k
    intro v S1 H1 e1 h1
    have hd := h1.head
    split at k
    · cases hd
      exact ⟨true, rfl, by rw [if_pos rfl]; exact k _ S1 H1 e1 (h1.tail.push (.bl true))⟩
    · cases hd
      exact ⟨false, rfl, by rw [if_neg Bool.false_ne_true]; exact s2 F S1 H1 σ ρ1 h1.tail Q (EOk.mono e1 k)⟩
    · exact k.elim
  | exc e ρ1 => rw [q] at k; exact k
  | bad => rw [q] at k; exact k
theorem je_not {a : Expr} {ma : ME} {pos : Pos} (ha : JE X G E .d μ a ma) : JE X G E .d μ (.UnaryOp .Not a pos) (mUn fNotV ma) := by
  obtain ⟨t1, p1, s1⟩ := ha.ex
  refine ⟨_, pe_not p1, fun F S H σ ρ h Q k => s1 F S H σ ρ h _ ?_⟩
  unfold mUn at k
  cases q : ma ρ with
  | ok x ρ1 =>
    rw [q, bind_ok] at k
    intro v S1 H1 e1 h1
    have hd := h1.head
    unfold fNotV at k
    split at k
    · cases hd
      exact ⟨_, rfl, k _ S1 H1 e1 (h1.tail.push (.bl _))⟩
    · exact k.elim
  | exc e ρ1 => rw [q] at k; exact k
  | bad => rw [q] at k; exact k
/-- a if t else b -/
def mIfE (t : MT) (a b : ME) : ME := fun ρ => (t ρ).bind fun x ρ1 => if x = true then a ρ1 else b ρ1
theorem je_if {c a b : Expr} {mc : MT} {ma mb : ME} {pos : Pos} (hc : JT X G E μ c mc) (ha : JE X G E r μ a ma) (hb : JE X G E r μ b mb) : JE X G E r μ (.IfExp c a b pos) (mIfE mc ma mb) := by
  obtain ⟨t0, p0, s0⟩ := hc.ex
  obtain ⟨t1, p1, s1⟩ := ha.ex
  obtain ⟨t2, p2, s2⟩ := hb.ex
  refine ⟨_, pe_ifExp p0 p1 p2, fun F S H σ ρ h Q k => s0 F S H σ ρ h _ ?_⟩
  unfold mIfE at k
  cases q : mc ρ with
  | ok x ρ1 =>
    rw [q, bind_ok] at k
    intro S1 H1 e1 h1
    cases x with
    | true =>
      rw [if_pos rfl] at k ⊢
      exact s1 F S1 H1 σ ρ1 h1 Q (EOk.mono e1 k)
    | false =>
      rw [if_neg Bool.false_ne_true] at k ⊢
      exact s2 F S1 H1 σ ρ1 h1 Q (EOk.mono e1 k)
  | exc e ρ1 => rw [q] at k; exact k
  | bad => rw [q] at k; exact k
/-- a op b op c -/
def mChain (f g : D → D → Option Bool) (a b c : ME) : List D → RR Bool := fun ρ => (a ρ).bind fun x ρ1 => (b ρ1).bind fun y ρ2 => (RR.of (f x y) ρ2).bind fun k ρ3 => if k = true then (c ρ3).bind fun z ρ4 => RR.of (g y z) ρ4 else .ok false ρ3
def mChainV (f g : D → D → Option Bool) (a b c : ME) : ME := fun ρ => (mChain f g a b c ρ).bind fun x ρ1 => .ok (.bl x) ρ1
theorem se_chain {K : PySem.W.Frag} {t u : R2} {f g : D → D → Option Bool} {ta tb tc : TE} {a b c : ME} (hd : OpB K G t f) (hd2 : OpB K G u g) (s1 : SE K G E .d μ ta a) (s2 : SE K G E .d μ tb b) (s3 : SE K G E .d μ tc c) :
    ∀ F S H σ ρ, EnvOk K G F S H μ σ ρ → ∀ Q : VK, TOk K G E μ F S σ (fun b H' => Q (.bl b) H') (mChain f g a b c ρ) → tChain t u ta tb tc σ H Q := by
  intro F S H σ ρ h Q k
  refine s1 F S H σ ρ h _ ?_
  unfold mChain at k
  cases q : a ρ with
  | ok x ρ1 =>
    rw [q, bind_ok] at k
    intro v S1 H1 e1 h1
    refine s2 F S1 H1 σ ρ1 h1.tail _ ?_
    have k2 := TOk.mono e1 k
    cases q2 : b ρ1 with
    | ok y ρ2 =>
      rw [q2, bind_ok] at k2
      intro w S2 H2 e2 h2
      have k3 := TOk.mono e2 k2
      cases q3 : f x y with
      | none => rw [q3] at k3; exact k3.elim
      | some z =>
        rw [q3, of_some, bind_ok] at k3
        refine hd F S2 H2 μ σ ρ2 v w x y z h2.tail (h1.head.mono e2) h2.head q3 _ ⟨z, rfl, ?_⟩
        cases z with
        | false =>
          rw [if_neg Bool.false_ne_true] at k3 ⊢
          exact k3 S2 H2 (Evl.Ex.refl S2) h2.tail
        | true =>
          rw [if_pos rfl] at k3 ⊢
          refine s3 F S2 H2 σ ρ2 h2.tail _ ?_
          cases q4 : c ρ2 with
          | ok z ρ3 =>
            rw [q4, bind_ok] at k3
            intro u S3 H3 e3 h3
            cases q5 : g y z with
            | none => rw [q5] at k3; exact k3.elim
            | some l =>
              rw [q5] at k3
              exact hd2 F S3 H3 μ σ ρ3 w u y z l h3.tail (h2.head.mono e3) h3.head q5 Q (k3 S3 H3 e3 h3.tail)
          | exc e ρ3 => rw [q4] at k3; exact k3
          | bad => rw [q4] at k3; exact k3
    | exc e ρ2 => rw [q2] at k2; exact k2
    | bad => rw [q2] at k2; exact k2
  | exc e ρ1 => rw [q] at k; exact k
  | bad => rw [q] at k; exact k
theorem jt_chain {op op' : CmpOp} {t u : R2} {f g : D → D → Option Bool} {a b c : Expr} {ma mb mc : ME} {pos : Pos} (ho : OpR X (compareOp op) t) (ho' : OpR X (compareOp op') u) (hd : OpB X.K G t f) (hd2 : OpB X.K G u g)
    (ha : JE X G E .d μ a ma) (hb : JE X G E .d μ b mb) (hc : JE X G E .d μ c mc) (hm : lastMarks [op, op'] [b, c] = false := by with_unfolding_all rfl) : JT X G E μ (.Compare a [op, op'] [b, c] pos) (mChain f g ma mb mc) := by
  obtain ⟨t1, p1, s1⟩ := ha.ex
  obtain ⟨t2, p2, s2⟩ := hb.ex
  obtain ⟨t3, p3, s3⟩ := hc.ex
  refine ⟨_, pt_chain ho ho' p1 p2 p3 hm, fun F S H σ ρ h Q k => se_chain hd hd2 s1 s2 s3 F S H σ ρ h _ ?_⟩
  cases q : mChain f g ma mb mc ρ with
  | ok x ρ1 => rw [q] at k; exact fun S' H' e h' => ⟨x, rfl, k S' H' e h'⟩
  | exc e ρ1 => rw [q] at k; exact k
  | bad => rw [q] at k; exact k
theorem je_chain {op op' : CmpOp} {t u : R2} {f g : D → D → Option Bool} {a b c : Expr} {ma mb mc : ME} {pos : Pos} (ho : OpR X (compareOp op) t) (ho' : OpR X (compareOp op') u) (hd : OpB X.K G t f) (hd2 : OpB X.K G u g)
    (ha : JE X G E .d μ a ma) (hb : JE X G E .d μ b mb) (hc : JE X G E .d μ c mc) (hm : lastMarks [op, op'] [b, c] = false := by with_unfolding_all rfl) : JE X G E .d μ (.Compare a [op, op'] [b, c] pos) (mChainV f g ma mb mc) := by
  obtain ⟨t1, p1, s1⟩ := ha.ex
  obtain ⟨t2, p2, s2⟩ := hb.ex
  obtain ⟨t3, p3, s3⟩ := hc.ex
  refine ⟨_, pe_chain ho ho' p1 p2 p3 hm, fun F S H σ ρ h Q k => se_chain hd hd2 s1 s2 s3 F S H σ ρ h _ ?_⟩
  unfold mChainV at k
  cases q : mChain f g ma mb mc ρ with
  | ok x ρ1 => rw [q] at k; exact fun S' H' e h' => k _ S' H' e (h'.push (.bl x))
  | exc e ρ1 => rw [q] at k; exact k
  | bad => rw [q] at k; exact k

/-! ### arguments, displays -/
def mNil : MA := fun ρ => .ok [] ρ
def mCons (a : ME) (b : MA) : MA := fun ρ => (a ρ).bind fun x ρ1 => (b ρ1).bind fun xs ρ2 => .ok (x :: xs) ρ2
theorem ja_nil : JA X G E μ [] mNil := ⟨_, pa_nil, fun F S H σ ρ h Q k => k [] S H (Evl.Ex.refl S) h .nil⟩
theorem ja_cons {e : Expr} {es : List Expr} {a : ME} {b : MA} (ha : JE X G E .d μ e a) (hb : JA X G E μ es b) (hs : starEach (e :: es) X.env = (false, eval e X.env) :: starEach es X.env := by rfl) : JA X G E μ (e :: es) (mCons a b) := by
  obtain ⟨t1, p1, s1⟩ := ha.ex
  obtain ⟨t2, p2, s2⟩ := hb.ex
  refine ⟨_, pa_cons p1 p2 hs, fun F S H σ ρ h Q k => s1 F S H σ ρ h _ ?_⟩
  unfold mCons at k
  cases q : a ρ with
  | ok x ρ1 =>
    rw [q, bind_ok] at k
    intro v S1 H1 e1 h1
    refine s2 F S1 H1 σ ρ1 h1.tail _ ?_
    have k2 := AOk.mono e1 k
    cases q2 : b ρ1 with
    | ok xs ρ2 =>
      rw [q2, bind_ok] at k2
      exact fun vs S2 H2 e2 h2 q3 => k2 _ S2 H2 e2 h2 (.cons (h1.head.mono e2) q3)
    | exc e ρ2 => rw [q2] at k2; exact k2
    | bad => rw [q2] at k2; exact k2
  | exc e ρ1 => rw [q] at k; exact k
  | bad => rw [q] at k; exact k
def mTup (a : MA) : ME := fun ρ => (a ρ).bind fun ds ρ1 => if ds.length ≤ 1000 then .ok (.tup ds) ρ1 else .bad
def mLst (a : MA) : ME := fun ρ => (a ρ).bind fun ds ρ1 => if ds.length ≤ 1000 then .ok (.lst ds) ρ1 else .bad
theorem le_line {n : Nat} (h : n ≤ 1000) : n ≤ sizeLine := Nat.le_trans h (by decide)
theorem je_tup {es : List Expr} {a : MA} {k : Nat} {pos : Pos} (ha : JA X G E μ es a) : JE X G E .d μ (.Tuple es k pos) (mTup a) := by
  obtain ⟨t1, p1, s1⟩ := ha.ex
  refine ⟨_, pe_tup p1, fun F S H σ ρ h Q k => s1 F S H σ ρ h _ ?_⟩
  unfold mTup at k
  cases q : a ρ with
  | ok ds ρ1 =>
    rw [q, bind_ok] at k
    intro vs S1 H1 e1 h1 q1
    split at k
    · rename_i hl
      have := q1.length
      exact ⟨le_line (by omega), fun p hp => RVal.tup (K := X.K) (G := G) (F := F) (fun v S2 H2 e2 h2 => k v S2 H2 (e1.trans e2) h2) h1 q1 hp⟩
    · exact k.elim
  | exc e ρ1 => rw [q] at k; exact k
  | bad => rw [q] at k; exact k
theorem je_lstR {es : List Expr} {a : MA} {pos : Pos} (hr : r = .d ∨ r = .o) (ha : JA X G E μ es a) : JE X G E r μ (.List es pos) (mLst a) := by
  obtain ⟨t1, p1, s1⟩ := ha.ex
  refine ⟨_, pe_lst p1, fun F S H σ ρ h Q k => s1 F S H σ ρ h _ ?_⟩
  unfold mLst at k
  cases q : a ρ with
  | ok ds ρ1 =>
    rw [q, bind_ok] at k
    intro vs S1 H1 e1 h1 q1
    split at k
    · rename_i hl
      have := q1.length
      exact ⟨le_line (by omega), fun p hp => RVal.new (K := X.K) (G := G) (F := F) hr (fun v S2 H2 e2 h2 => k v S2 H2 (e1.trans e2) h2) h1 q1 hp⟩
    · exact k.elim
  | exc e ρ1 => rw [q] at k; exact k
  | bad => rw [q] at k; exact k
theorem je_lst {es : List Expr} {a : MA} {pos : Pos} (ha : JA X G E μ es a) : JE X G E .d μ (.List es pos) (mLst a) := je_lstR (.inl rfl) ha
theorem je_lstO {es : List Expr} {a : MA} {pos : Pos} (ha : JA X G E μ es a) : JE X G E .o μ (.List es pos) (mLst a) := je_lstR (.inr rfl) ha

/-! ### subscripts -/
def fIx : D → D → Option D
  | .lst ds, .int i => atI ds i
  | .tup ds, .int i => atI ds i
  | .scr ns, .int i => (atI ns i).map .int
  | .str s, .int i => if s.length ≤ sizeLine then (atI s.cps.toList i).map fun c => .str ⟨#[c]⟩ else none
  | _, _ => none
theorem datL_at {K : PySem.W.Frag} {S : Hp} {vs : List V} {ds : List D} {i : Int} {d : D} (h : DatL K G S vs ds) (e : atI ds i = some d) : ∃ v, atI vs i = some v ∧ Dat K G S v d := by
  unfold atI at e ⊢
  rw [h.length]
  cases q : ixN ds.length i with
  | none => rw [q] at e; cases e
  | some j =>
    rw [q] at e
    exact h.get e
theorem opd_ix {K : PySem.W.Frag} : OpD K G .d (rIx K) fIx := by
  intro F S H μ σ ρ x y dx dy z h q1 q2 e Q k
  unfold fIx at e
  split at e
  · cases q2
    cases q1 with
    | lst a1 a2 =>
      obtain ⟨v, e1, e2⟩ := datL_at a2 e
      exact .inl ⟨_, _, _, v, rfl, rfl, .inl (.inl (h.sh _ _ a1)), e1, k.dat (Evl.Ex.refl S) h e2⟩
  · cases q2
    cases q1 with
    | tup a1 a2 =>
      obtain ⟨v, e1, e2⟩ := datL_at a2 e
      exact .inr (.inl ⟨_, _, _, v, rfl, rfl, Evl.ex_t h.sh a1, e1, k.dat (Evl.Ex.refl S) h e2⟩)
  · cases q2
    cases q1 with
    | scr a1 =>
      rename_i ns i a
      cases q : atI ns i with
      | none => rw [q] at e; cases e
      | some n =>
        rw [q] at e
        cases e
        refine .inl ⟨_, _, _, .int n, rfl, rfl, Evl.ex_l h.sh a1, ?_, k.dat (Evl.Ex.refl S) h (.int n)⟩
        unfold atI at q ⊢
        rw [List.length_map]
        cases q3 : ixN ns.length i with
        | none => rw [q3] at q; cases q
        | some j =>
          rw [q3] at q
          have q' : ns[j]? = some n := q
          show (ns.map V.int)[j]? = _
          rw [List.getElem?_map, q']
          rfl
  · split at e
    · cases q2
      cases q1
      rename_i s i hs
      cases q : atI s.cps.toList i with
      | none => rw [q] at e; cases e
      | some c =>
        rw [q] at e
        cases e
        exact .inr (.inr ⟨_, _, c, rfl, rfl, hs, q, k.dat (Evl.Ex.refl S) h (.str _)⟩)
    · cases e
  · cases e
theorem je_ix {a b : Expr} {ma mb : ME} {pos : Pos} (ha : JE X G E .d μ a ma) (hb : JE X G E .d μ b mb) (hs : PlainIx b := by intro _ _; rfl) : JE X G E .d μ (.Subscript a b pos) (mOp fIx ma mb) := by
  obtain ⟨t1, p1, s1⟩ := ha.ex
  obtain ⟨t2, p2, s2⟩ := hb.ex
  exact ⟨_, pe_ix ix_seq p1 p2 hs, se_op opd_ix s1 s2⟩
/-- an item of an owned list -/
def mIxO (i : Nat) (b : ME) : ME := fun ρ => (b ρ).bind fun y ρ1 => RR.of (match ρ1.getD i .non with | .lst ds => fIx (.lst ds) y | _ => none) ρ1
theorem je_ixO {x : Str} {i : Nat} {b : Expr} {mb : ME} {pos p2 : Pos} (hb : JE X G E .d μ b mb) (e : μ[i]? = some .o := by rfl) (hN : X.N[i]? = some x := by rfl) (hs : PlainIx b := by intro _ _; rfl)
    (hv : Vis X.env.scope x := by first | exact Or.inl rfl | exact Or.inr (Or.inl rfl) | exact Or.inr (Or.inr rfl)) (hd : (x == ("__debug__" : Str)) = false := by decide) (hcd : (x == ("__classdict__" : Str)) = false := by decide) :
    JE X G E .d μ (.Subscript (.Name x p2) b pos) (mIxO i mb) := by
  obtain ⟨t2, p2, s2⟩ := hb.ex
  refine ⟨_, pe_ix ix_list (pe_var hN hv hd hcd) p2 hs, fun F S H σ ρ h Q k => ?_⟩
  obtain ⟨p, q1, q2⟩ := h.ovar e
  refine ⟨_, q1, s2 F S H σ ρ h _ ?_⟩
  unfold mIxO at k
  cases q : mb ρ with
  | ok y ρ1 =>
    rw [q, bind_ok] at k
    intro w S1 H1 e1 h1
    obtain ⟨p', q3, q4⟩ := h1.tail.ovar e
    rw [q1] at q3
    cases q3
    generalize ρ1.getD i .non = dg at q4 k
    cases q4 with
    | lst a1 a2 =>
      rename_i vs ds
      dsimp only at k
      cases q5 : fIx (.lst ds) y with
      | none => rw [q5] at k; exact k.elim
      | some z =>
        rw [q5] at k
        have hy := h1.head
        cases y with
        | int j =>
          cases hy
          obtain ⟨v, e7, e8⟩ := datL_at (own_flat a2 rfl) (show atI ds j = some z from q5)
          exact ⟨_, _, _, v, rfl, rfl, .inl (.inl a1), e7, k v S1 H1 e1 (h1.tail.push e8)⟩
        | _ => cases q5
    | dK _ _ _ => exact k.elim
    | dT _ _ _ => exact k.elim
    | ins _ _ _ => exact k.elim
  | exc e1 ρ1 => rw [q] at k; exact k
  | bad => rw [q] at k; exact k
end
end MR

set_option Elab.async false
set_option linter.all false
set_option maxRecDepth 100000
set_option maxHeartbeats 1000000
/-! MB5: calls of builtins and of defs, defs themselves, owned lists, targets, what is walked, raise. -/
namespace MR
open PySem L2 PyProof.Rows
section
variable {X : Cx} {G : Cl} {E : XS} {C : SC} {μ μ' μ1 : List Mode} {r : Mode}
variable {K : PySem.W.Frag} {F S H : Hp} {σ : L2.St} {ρ : List D}
/-- an owned object is changed -/
theorem EnvOk.chO {i : Nat} {p : Addr} {o : HO} {d : D} (h : EnvOk K G F S H μ σ ρ) (e : μ[i]? = some .o) (hp : σ[i]? = some (some (.ref p))) (q : Own K G S (upd H p o) p d [p]) : EnvOk K G F S (upd H p o) μ σ (ρ.set i d) := by
  obtain ⟨fp, ⟨f1, f2, f3⟩, f4, sl, th⟩ := h.fps
  obtain ⟨p', h1, h2, h3⟩ := sl i .o e
  rw [hp] at h1
  cases h1
  have hi : i < μ.length := (List.getElem?_eq_some_iff.mp e).1
  have mp : p ∈ fp i := by rw [h3]; exact List.mem_singleton.mpr rfl
  have hS : S p = none := (f1 i p mp).1
  have hF : F p = none := (f1 i p mp).2
  refine ⟨fun a u z => ?_, fun a u z => ⟨?_, (h.fk a u z).2⟩, h.ls, by simp [h.lr], fp, ⟨f1, f2, f3⟩, f4, fun j m e2 => ?_⟩
  · rw [upd_ne (ne_of_none z hS)]
    exact h.sh _ _ z
  · rw [upd_ne (ne_of_none z hF)]
    exact (h.fk a u z).1
  · by_cases hj : j = i
    · subst hj
      rw [e] at e2
      cases e2
      have : (ρ.set j d).getD j .non = d := by simp [List.getD, List.getElem?_set_self (show j < ρ.length by rw [h.lr]; exact hi)]
      rw [this]
      exact ⟨p, hp, by rw [h3]; exact q, h3⟩
    · have : (ρ.set i d).getD j .non = ρ.getD j .non := by simp [List.getD, List.getElem?_set_ne (Ne.symm hj)]
      rw [this]
      refine (sl j m e2).mono (Evl.Ex.refl S) fun a ha => upd_ne fun z => ?_
      subst z
      exact hj (f2 j i a ha mp)

def D.nat : D → Nat
  | .int i => i.natAbs
  | _ => 0

/-! ### builtins by name -/
def mCB (f : List D → Option D) (a : MA) : ME := fun ρ => (a ρ).bind fun ds ρ1 => RR.of (f ds) ρ1
theorem se_cb {t : List V → Hp → VK → Prop} {f : List D → Option D} {ta : TA} {a : MA} (hd : CallD K G r t f) (s1 : SA K G E μ ta a) : SE K G E r μ (tCB t ta) (mCB f a) := by
  intro F S H σ ρ h Q k
  refine s1 F S H σ ρ h _ ?_
  unfold mCB at k
  cases q : a ρ with
  | ok ds ρ1 =>
    rw [q, bind_ok] at k
    intro vs S1 H1 e1 h1 q1
    cases q2 : f ds with
    | none => rw [q2] at k; exact k.elim
    | some z =>
      rw [q2] at k
      exact hd F S1 H1 μ σ ρ1 vs ds z h1 q1 q2 Q fun v S2 H2 e2 h2 => k v S2 H2 (e1.trans e2) h2
  | exc e ρ1 => rw [q] at k; exact k
  | bad => rw [q] at k; exact k
theorem je_cb {id : String} {t : List V → Hp → VK → Prop} {f : List D → Option D} {x : Str} {e : Expr} {es : List Expr} {a : MA} {p pos : Pos} (hc : CallR X (.builtin id) t) (hd : CallD X.K G r t f) (hm : X.mg x = none) (ha : JA X G E μ (e :: es) a)
    (hg : Gl X x := by rfl) (hv : bootBuiltins x = some (.builtin id) := by decide +kernel) (hn : x ≠ "__name__" := by decide) (hdb : (x == ("__debug__" : Str)) = false := by decide) (he : starEach (e :: es) X.env = (false, eval e X.env) :: starEach es X.env := by rfl) (hpl : (backTo pos (starEach es X.env)).any (·.1) = false := by rfl) :
    JE X G E r μ (.Call (.Name x p) (e :: es) [] pos) (mCB f a) := by
  obtain ⟨t1, p1, s1⟩ := ha.ex
  exact ⟨_, pe_callB hc hg hm hv p1 hn hdb he hpl, se_cb hd s1⟩
theorem je_ct {T : String} {t : List V → Hp → VK → Prop} {f : List D → Option D} {x : Str} {e : Expr} {es : List Expr} {a : MA} {p pos : Pos} (hc : CallR X (.type T) t) (hd : CallD X.K G r t f) (hm : X.mg x = none) (ha : JA X G E μ (e :: es) a)
    (hg : Gl X x := by rfl) (hv : bootBuiltins x = some (.type T) := by decide +kernel) (hn : x ≠ "__name__" := by decide) (hdb : (x == ("__debug__" : Str)) = false := by decide) (he : starEach (e :: es) X.env = (false, eval e X.env) :: starEach es X.env := by rfl) (hpl : (backTo pos (starEach es X.env)).any (·.1) = false := by rfl) :
    JE X G E r μ (.Call (.Name x p) (e :: es) [] pos) (mCB f a) := by
  obtain ⟨t1, p1, s1⟩ := ha.ex
  exact ⟨_, pe_callTy hc hg hm hv p1 hn hdb he hpl, se_cb hd s1⟩
def fLen : List D → Option D
  | [.str s] => if s.length ≤ sizeLine then some (.int s.length) else none
  | [.lst ds] => some (.int ds.length)
  | [.tup ds] => some (.int ds.length)
  | [.scr ns] => some (.int ns.length)
  | _ => none
theorem cd_len : CallD K G .d (fun xs H Q => ∃ x n, xs = [x] ∧ LenV K x H n ∧ Q (.int n) H) fLen := by
  intro F S H μ σ ρ vs ds z h q e Q k
  match ds, q, e with
  | [.str s], .cons q1 .nil, e =>
    have e' : (if s.length ≤ sizeLine then some (D.int s.length) else none) = some z := e
    split at e'
    · cases e'
      cases q1
      exact ⟨_, _, rfl, ⟨by assumption, rfl⟩, k.dat (Evl.Ex.refl S) h (.int _)⟩
    · cases e'
  | [.lst ds], .cons q1 .nil, e =>
    cases e
    cases q1 with
    | lst a1 a2 => exact ⟨_, _, rfl, .inl ⟨_, .inl (.inl (h.sh _ _ a1)), rfl⟩, by rw [a2.length]; exact k.dat (Evl.Ex.refl S) h (.int _)⟩
  | [.tup ds], .cons q1 .nil, e =>
    cases e
    cases q1 with
    | tup a1 a2 => exact ⟨_, _, rfl, .inr ⟨_, Evl.ex_t h.sh a1, rfl⟩, by rw [a2.length]; exact k.dat (Evl.Ex.refl S) h (.int _)⟩
  | [.scr ns], .cons q1 .nil, e =>
    cases e
    cases q1 with
    | scr a1 => exact ⟨_, _, rfl, .inl ⟨_, Evl.ex_l h.sh a1, rfl⟩, by rw [List.length_map]; exact k.dat (Evl.Ex.refl S) h (.int _)⟩
def fAbs : List D → Option D
  | [.int i] => some (.int (if i < 0 then -i else i))
  | _ => none
theorem cd_abs : CallD K G .d (fun xs H Q => ∃ i, xs = [.int i] ∧ Q (.int (if i < 0 then -i else i)) H) fAbs := by
  intro F S H μ σ ρ vs ds z h q e Q k
  match ds, q, e with
  | [.int i], .cons q1 .nil, e =>
    cases e
    cases q1
    exact ⟨_, rfl, k.dat (Evl.Ex.refl S) h (.int _)⟩
def fIntOf : List D → Option D
  | [.int i] => some (.int i)
  | [.bl b] => some (.int (if b then 1 else 0))
  | [.str s] => if s.length ≤ 640 then (PySem.intText? s).map .int else none
  | _ => none
def rIntOf : List V → Hp → VK → Prop := fun xs H Q => ((∃ i, xs = [.int i] ∧ Q (.int i) H) ∨ ∃ k, xs = [.bl k] ∧ Q (.int (if k then 1 else 0)) H) ∨ ∃ a n, xs = [.str a] ∧ PySem.intText? a = some n ∧ a.length ≤ 640 ∧ Q (.int n) H
theorem callR_or {f : Value} {t u : List V → Hp → VK → Prop} (h : CallR X f t) (h' : CallR X f u) : CallR X f (fun xs H Q => t xs H Q ∨ u xs H Q) := by
  intro pins s σ H xs us Q I r q
  rcases q with q | q
  · exact h pins s σ H xs us Q I r q
  · exact h' pins s σ H xs us Q I r q
theorem call_intOf : CallR X (.type "int") rIntOf := callR_or call_int1 call_int_str
theorem cd_int : CallD K G .d rIntOf fIntOf := by
  intro F S H μ σ ρ vs ds z h q e Q k
  match ds, q, e with
  | [.int i], .cons q1 .nil, e =>
    cases e
    cases q1
    exact .inl (.inl ⟨_, rfl, k.dat (Evl.Ex.refl S) h (.int _)⟩)
  | [.bl i], .cons q1 .nil, e =>
    cases e
    cases q1
    exact .inl (.inr ⟨_, rfl, k.dat (Evl.Ex.refl S) h (.int _)⟩)
  | [.str s], .cons q1 .nil, e =>
    have e' : (if s.length ≤ 640 then (PySem.intText? s).map D.int else none) = some z := e
    split at e'
    · cases q2 : PySem.intText? s with
      | none => rw [q2] at e'; cases e'
      | some n =>
        rw [q2] at e'
        cases e'
        cases q1
        exact .inr ⟨_, _, rfl, q2, by assumption, k.dat (Evl.Ex.refl S) h (.int _)⟩
    · cases e'
def fListOf : List D → Option D
  | [.lst ds] => some (.lst ds)
  | [.tup ds] => some (.lst ds)
  | _ => none
theorem cd_list (hr : r = .d ∨ r = .o) : CallD K G r (fun xs H Q => ∃ p ys, xs = [.ref p] ∧ (SqL K H p ys ∨ SqT K H p ys) ∧ ∀ l, H l = none → Q (.ref l) (upd H l (.lst ys))) fListOf := by
  intro F S H μ σ ρ vs ds z h q e Q k
  match ds, q, e with
  | [.lst ds], .cons q1 .nil, e =>
    cases e
    cases q1 with
    | lst a1 a2 => exact ⟨_, _, rfl, .inl (.inl (.inl (h.sh _ _ a1))), fun l hl => k.new hr h a2 hl⟩
  | [.tup ds], .cons q1 .nil, e =>
    cases e
    cases q1 with
    | tup a1 a2 => exact ⟨_, _, rfl, .inr (Evl.ex_t h.sh a1), fun l hl => k.new hr h a2 hl⟩
def fTupOf : List D → Option D
  | [.lst ds] => some (.tup ds)
  | _ => none
theorem cd_tuple : CallD K G .d (fun xs H Q => ∃ p ys, xs = [.ref p] ∧ ((SqL K H p ys ∧ ∀ l, H l = none → Q (.ref l) (upd H l (.tup ys))) ∨ (SqT K H p ys ∧ Q (.ref p) H))) fTupOf := by
  intro F S H μ σ ρ vs ds z h q e Q k
  match ds, q, e with
  | [.lst ds], .cons q1 .nil, e =>
    cases e
    cases q1 with
    | lst a1 a2 => exact ⟨_, _, rfl, .inl ⟨.inl (.inl (h.sh _ _ a1)), fun l hl => k.tup h a2 hl⟩⟩
def fStrOf : List D → Option D
  | [.int i] => if i.natAbs.log2 < 1920 then some (.str (toString i)) else none
  | _ => none
theorem cd_str : CallD K G .d (fun xs H Q => ∃ i, xs = [.int i] ∧ i.natAbs.log2 < 1920 ∧ Q (.str (toString i)) H) fStrOf := by
  intro F S H μ σ ρ vs ds z h q e Q k
  match ds, q, e with
  | [.int i], .cons q1 .nil, e =>
    have e' : (if i.natAbs.log2 < 1920 then some (D.str (toString i)) else none) = some z := e
    split at e'
    · cases e'
      cases q1
      exact ⟨_, rfl, by assumption, k.dat (Evl.Ex.refl S) h (.str _)⟩
    · cases e'
/-- isinstance(x, T), T a builtin class -/
def tyName : D → Option String
  | .non => some "NoneType"
  | .bl _ => some "bool"
  | .int _ => some "int"
  | .str _ => some "str"
  | .lst _ => some "list"
  | .scr _ => some "list"
  | .tup _ => some "tuple"
  | .dK _ => some "dict"
  | .dT _ => some "dict"
  | .ins _ _ => none
def fIsi (T : String) (d : D) : Option D := match tyName d with
  | some n => (kitB n T).map .bl
  | none => none
theorem ty_ok (e : Ex S H) {v : V} {d : D} {n : String} (h : Dat K G S v d) (q : tyName d = some n) : TyX K H v (.type n) := by
  cases h with
  | non => cases q; exact .base .non
  | bl b => cases q; exact .base (.bl b)
  | int b => cases q; exact .base (.int b)
  | str b => cases q; exact .base (.str b)
  | lst h1 _ => cases q; exact .base (.lst (e _ _ h1))
  | tup h1 _ =>
    cases q
    rcases Evl.ex_t e h1 with (h2 | ⟨o, h2⟩) | ⟨o, its, m, h2, h3, _⟩
    · exact .base (.tup h2)
    · exact .fTuple h2
    · exact .kTuple h2 h3
  | scr h1 =>
    cases q
    rcases Evl.ex_l e h1 with (h2 | ⟨o, h2⟩) | ⟨o, its, m, h2, h3, _⟩
    · exact .base (.lst h2)
    · exact .base (.frz h2)
    · exact .kList h2 h3
  | dK h1 _ _ => cases q; exact .base (.dK (e _ _ h1))
  | dT h1 _ _ => cases q; exact .base (.dT (e _ _ h1))
  | ins _ _ _ => cases q
theorem je_isi {a : Expr} {ma : ME} {y x : Str} {T : String} {p p2 pos : Pos} (ha : JE X G E .d μ a ma) (hy : X.mg y = none) (hx : X.mg x = none) (hgy : Gl X y := by rfl) (hg : Gl X x := by rfl) (hvy : bootBuiltins y = some (.builtin "isinstance") := by decide +kernel) (hv : bootBuiltins x = some (.type T) := by decide +kernel)
    (hny : y ≠ "__name__" := by decide) (hdy : (y == ("__debug__" : Str)) = false := by decide) (hn : x ≠ "__name__" := by decide) (hdb : (x == ("__debug__" : Str)) = false := by decide)
    (h1 : starEach [a, .Name x p2] X.env = (false, eval a X.env) :: starEach [.Name x p2] X.env := by rfl) (h2 : starEach [.Name x p2] X.env = (false, eval (.Name x p2) X.env) :: starEach [] X.env := by rfl) (hpl : (backTo pos (starEach [.Name x p2] X.env)).any (·.1) = false := by rfl) :
    JE X G E .d μ (.Call (.Name y p) [a, .Name x p2] [] pos) (mUn (fIsi T) ma) := by
  obtain ⟨t1, p1, s1⟩ := ha.ex
  refine ⟨_, pe_callB call_isi hgy hy hvy (pa_cons p1 (pa_cons (pe_bltn (v := .ty T) hg hx hv rfl hn hdb) pa_nil h2) h1) hny hdy h1 hpl, fun F S H σ ρ h Q k => s1 F S H σ ρ h _ ?_⟩
  unfold mUn at k
  cases q : ma ρ with
  | ok x ρ1 =>
    rw [q, bind_ok] at k
    intro v S1 H1 e1 h1
    unfold fIsi at k
    cases q2 : tyName x with
    | none => rw [q2] at k; exact k.elim
    | some n =>
      rw [q2] at k
      dsimp only at k
      cases q3 : kitB n T with
      | none => rw [q3] at k; exact k.elim
      | some b =>
        rw [q3] at k
        exact ⟨_, _, _, _, b, rfl, .ty T, ty_ok h1.sh h1.head q2, kit_ty q3, k _ S1 H1 e1 (h1.tail.push (.bl b))⟩
  | exc e ρ1 => rw [q] at k; exact k
  | bad => rw [q] at k; exact k

/-! ### calls of defs -/
/-- the promise of a def whose arguments are data -/
def spP (K : PySem.W.Frag) (G : Cl) (n : Nat) (rm : Mode) (f : MP) : Sp := fun vs H Q E => ∃ F S ds, Ex S H ∧ (∀ a o, F a = some o → H a = some o ∧ S a = none) ∧ DatL K G S vs ds ∧ ds.length = n ∧
  match f ds with
  | .ok d => ∀ v S' H', Ex S S' → EnvOk K G F S' H' [rm] [some v] [d] → Q v H'
  | .exc e => ∀ c dct S' H', Ex S S' → EnvOk K G F S' H' [] [] [] → ErrAt G e c dct H' → E c dct H'
  | .bad => False
theorem spP_len {n : Nat} {rm : Mode} {f : MP} {vs : List V} {H : Hp} {Q : VK} {E : XK} (h : spP K G n rm f vs H Q E) : vs.length = n := by
  obtain ⟨F, S, ds, _, _, q, l, _⟩ := h
  rw [q.length, l]
def mCall (f : MP) (dd : List D) (a : MA) : ME := fun ρ => (a ρ).bind fun ds ρ1 => match f (ds ++ dd) with
  | .ok d => .ok d ρ1
  | .exc e => .exc e ρ1
  | .bad => .bad
theorem se_call {n : Nat} {f : MP} {dvs : List V} {dd : List D} {ta : TA} {a : MA} (hn : ∀ ρ ds ρ1, a ρ = .ok ds ρ1 → (ds ++ dd).length = n) (hdd : ∀ S, DatL K G S dvs dd) (s1 : SA K G E μ ta a) : SE K G E r μ (tCallSD (spP K G n r f) dvs E ta) (mCall f dd a) := by
  intro F S H σ ρ h Q k
  refine s1 F S H σ ρ h _ ?_
  unfold mCall at k
  cases q : a ρ with
  | ok ds ρ1 =>
    rw [q, bind_ok] at k
    intro vs S1 H1 e1 h1 q1
    refine ⟨rest H1 S1, S1, ds ++ dd, h1.sh, fun _ _ z => rest_some z, q1.append (hdd S1), hn ρ ds ρ1 q, ?_⟩
    cases q2 : f (ds ++ dd) with
    | ok d =>
      rw [q2] at k
      exact fun v S2 H2 e2 h2 => k v S2 H2 (e1.trans e2) (h1.back e2 h2)
    | exc e =>
      rw [q2] at k
      exact fun c dct S2 H2 e2 h2 z => k c dct S2 H2 (e1.trans e2) (h1.back0 e2 h2) z
    | bad => rw [q2] at k; exact k
  | exc e ρ1 => rw [q] at k; exact k
  | bad => rw [q] at k; exact k
/-- how many arguments -/
def ALen (a : MA) (n : Nat) : Prop := ∀ ρ ds ρ1, a ρ = .ok ds ρ1 → ds.length = n
theorem alen_nil : ALen mNil 0 := fun ρ ds ρ1 h => by cases h; rfl
theorem alen_cons {a : ME} {b : MA} {n : Nat} (h : ALen b n) : ALen (mCons a b) (n + 1) := fun ρ ds ρ1 e => by
  unfold mCons at e
  cases q : a ρ with
  | ok x ρ2 =>
    rw [q, bind_ok] at e
    cases q2 : b ρ2 with
    | ok xs ρ3 =>
      rw [q2, bind_ok] at e
      cases e
      simp [h ρ2 xs _ q2]
    | exc _ _ => rw [q2] at e; cases e
    | bad => rw [q2] at e; cases e
  | exc _ _ => rw [q] at e; cases e
  | bad => rw [q] at e; cases e
/-- the facts that a call of a def wants -/
structure DefO (P : Program) (w : World) (K : PySem.W.Frag) (mg : Str → Option Value) (base : Heap) (G : Cl) (x : Str) (n : Nat) (rm : Mode) (f : MP) (k : Nat) (dd : List D) : Prop where
  ex : ∃ (a : Addr) (fd : FuncData) (ps : List Str) (ds : List Value) (dvs : List V), FnOk P w K mg base (L2.CX P w) k a fd ps (spP K G n rm f) ∧ mg x = some (.ref a) ∧ PySem.W.keepIn K (.ref a) = true ∧ Binds K fd ps ds ∧ Vals dvs ds ∧ ∀ S, DatL K G S dvs dd
theorem je_call {x : Str} {n k m : Nat} {f : MP} {dd : List D} {e : Expr} {es : List Expr} {a : MA} {p pos : Pos} (F : DefO X.prog X.w X.K X.mg X.base G x n r f k dd) (hr : Room k X.A) (tk : Takes X (fun c d σ H => E σ c d H)) (ha : JA X G E μ (e :: es) a) (hl : ALen a m) (hn : m + dd.length = n := by rfl)
    (hg : Gl X x := by rfl) (hdb : (x == ("__debug__" : Str)) = false := by decide) (he : starEach (e :: es) X.env = (false, eval e X.env) :: starEach es X.env := by rfl) (hpl : (backTo pos (starEach es X.env)).any (·.1) = false := by rfl) :
    JE X G E r μ (.Call (.Name x p) (e :: es) [] pos) (mCall f dd a) := by
  obtain ⟨t1, p1, s1⟩ := ha.ex
  obtain ⟨A, fd, ps, ds, dvs, h1, h2, h3, h4, h5, h6⟩ := F.ex
  exact ⟨_, pe_callSD h1 hr hg h2 h3 h4 h5 (fun σ => passAt tk σ) p1 hdb he hpl, se_call (fun ρ ds ρ1 q => by rw [List.length_append, hl ρ ds ρ1 q, hn]) h6 s1⟩

/-! ### a def by its body -/
def mDef (rm : Mode) (k : Nat) (b : MS) : MP := fun ds => match b (ds ++ List.replicate k .non) with
  | .ret d _ => .ok d
  | .nx _ => match rm with
    | .d => .ok .non
    | _ => .bad
  | .exc e _ => .exc e
  | _ => .bad
theorem modesLe_x : ∀ (μ : List Mode), ModesLe (List.replicate μ.length .x) μ = true
  | [] => rfl
  | m :: μ => by
    rw [List.length_cons, List.replicate_succ]
    simp [ModesLe, modesLe_x μ, ModeLe]
/-- an environment's head alone -/
theorem EnvOk.alone {s : Option V} {d : D} (h : EnvOk K G F S H (r :: μ) (s :: σ) (d :: ρ)) : EnvOk K G F S H [r] [s] [d] := by
  obtain ⟨sh, fk, ls, lr, fp, ⟨f1, f2, f3⟩, f4, sl⟩ := h
  refine ⟨sh, fk, rfl, rfl, fun i => match i with | 0 => fp 0 | _ + 1 => [], ⟨?_, ?_, ?_⟩, ?_, ?_⟩
  · intro i a ha
    cases i with
    | zero => exact f1 0 a ha
    | succ i => cases ha
  · intro i j a ha hb
    cases i with
    | zero =>
      cases j with
      | zero => rfl
      | succ j => cases hb
    | succ i => cases ha
  · intro i
    cases i with
    | zero => exact f3 0
    | succ i => exact List.nodup_nil
  · intro i hi
    cases i with
    | zero => simp at hi
    | succ i => rfl
  · intro i m e
    cases i with
    | zero =>
      have z := sl 0 m (by simpa using e)
      simpa using z
    | succ i => simp at e
theorem EnvOk.nothing (h : EnvOk K G F S H μ σ ρ) : EnvOk K G F S H [] [] [] :=
  ⟨h.sh, h.fk, rfl, rfl, fun _ => [], ⟨fun _ _ z => (by cases z), fun _ _ _ z => (by cases z), fun _ => List.nodup_nil⟩, fun _ _ => rfl, fun i m e => by simp at e⟩
/-- what a body of a def is held to -/
def scOf (E : XK) (rm : Mode) (n k : Nat) : SC := ⟨fun _ => E, rm, List.replicate (n + k) .x, List.replicate (n + k) .x, List.replicate (n + k) .x⟩
theorem nonOk (h : EnvOk K G F S H μ σ ρ) (hr : r = .d) : EnvOk K G F S H [r] [some V.non] [D.non] := by
  subst hr
  exact (h.nothing).push .non
section
variable {P : Program} {w : World} {mg : Str → Option Value} {base : Heap}
/-- THE RULE for a def -/
theorem fn_ok {x qual : Str} {st : Stmt} {f : Addr} {fd : FuncData} {N ps : List Str} {lv n k : Nat} {rm : Mode} {b : MS} {μe : List Mode} (F : Fun K x qual st f fd) (sc : FnScope N ps (defScope st)) (hn : ps.length = n) (hk : N.length = n + k)
    (hb : ∀ (cdv : Value) (A : Around) (outer : List Env) (s : Shared) (H : Hp) (E : XK), Room lv (A.deeper (envOfC qual (defScope st) s.heap.objs.size f cdv)) →
      JSs (cxOf (L2.CX P w) P w K mg base N qual (defScope st) f cdv A outer s H E) G (scOf E rm n k) (List.replicate n .d ++ List.replicate k .x) μe (defBody st) b) :
    FnOk P w K mg base (L2.CX P w) (lv + 1) f fd ps (spP K G n rm (mDef rm k b)) := by
  refine F.okX sc (fun vs H Q E h => by rw [spP_len h, hn]) fun cdv A outer s H vs Q E hr h => ?_
  obtain ⟨t, p1, s1⟩ := (hb cdv A outer s H E hr).ex
  obtain ⟨F0, S, ds, sh, fk, q, l, z⟩ := h
  have hv : vs.length = n := by rw [q.length, l]
  refine ⟨t, p1, ?_⟩
  have e0 : L2.start N vs = vs.map some ++ List.replicate k none := by
    unfold L2.start
    rw [show N.length - vs.length = k by omega]
  rw [e0]
  have en := EnvOk.args (G := G) sh fk q k
  rw [l] at en
  refine s1 F0 S H _ _ en _ ?_
  unfold mDef at z
  cases q2 : b (ds ++ List.replicate k .non) with
  | nx ρ' =>
    rw [q2] at z
    cases rm with
    | d => exact fun σ' S' H' e' h' => z _ S' H' e' (nonOk h' rfl)
    | _ => exact z.elim
  | ret d ρ' =>
    rw [q2] at z
    exact fun v μ1 σ' S' H' _ e' h' => z v S' H' e' h'.alone
  | exc e ρ' =>
    rw [q2] at z
    exact fun μ1 σ' c dct S' H' _ e' h' z' => z c dct S' H' e' h'.nothing z'
  | brk ρ' => rw [q2] at z; exact z.elim
  | cnt ρ' => rw [q2] at z; exact z.elim
  | bad => rw [q2] at z; exact z.elim
end
/-- in a def's body: what is raised is handed out; the loops' own -/
theorem tk_of {P : Program} {w : World} {mg : Str → Option Value} {base : Heap} {N : List Str} {qual : Str} {scope : Scope} {f : Addr} {cd : Value} {A : Around} {outer : List Env} {s : Shared} {H : Hp} {E : XK} :
    Takes (cxOf (L2.CX P w) P w K mg base N qual scope f cd A outer s H E) (fun c d _ H => E c d H) := takes_of rfl rfl rfl rfl
theorem po_of {P : Program} {w : World} {mg : Str → Option Value} {base : Heap} {N : List Str} {qual : Str} {scope : Scope} {f : Addr} {cd : Value} {A : Around} {outer : List Env} {s : Shared} {H : Hp} {E : XK} :
    PassesOwn (model (cxOf (L2.CX P w) P w K mg base N qual scope f cd A outer s H E).prog (cxOf (L2.CX P w) P w K mg base N qual scope f cd A outer s H E).w) (cxOf (L2.CX P w) P w K mg base N qual scope f cd A outer s H E).A (cxOf (L2.CX P w) P w K mg base N qual scope f cd A outer s H E).env (cxOf (L2.CX P w) P w K mg base N qual scope f cd A outer s H E).xe := passes_of rfl

/-! ### raise -/
/-- a module's constant -/
structure GlobD (K : PySem.W.Frag) (mg : Str → Option Value) (G : Cl) (x : Str) (d : D) : Prop where
  ex : ∃ v u, mg x = some u ∧ RelV v u ∧ ∀ S, Dat K G S v d
theorem je_globD {x : Str} {d : D} {pos : Pos} (q : GlobD X.K X.mg G x d) (hg : Gl X x := by rfl) (hd : (x == ("__debug__" : Str)) = false := by decide) : JE X G E .d μ (.Name x pos) (mC d) := by
  obtain ⟨v, u, h1, h2, h3⟩ := q.ex
  exact je_glob hg h1 h2 h3 hd
/-- an own class of exceptions without __init__ -/
structure ExcO (K : PySem.W.Frag) (mg : Str → Option Value) (G : Cl) (x : Str) (e : Err) : Prop where
  ex : ∃ C, mg x = some (.ref C) ∧ G.eA e.tag = C ∧ PySem.W.excIn K C [.type "ValueError", .type "Exception", .type "BaseException", .type "object"] "ValueError.__new__" = true ∧ PySem.W.keepIn K (.ref C) = true ∧
    PySem.W.subIn K (.ref C) (.type "BaseException") = some true ∧ PySem.W.typeIn K (.ref C) = some (.type "type")
  nl : ∀ n, e ≠ .line n
def mRaise (e : Err) (a : MA) : MS := fun ρ => match a ρ with
  | .ok _ ρ1 => .exc e ρ1
  | .exc e ρ1 => .exc e ρ1
  | .bad => .bad
theorem js_raise {x : Str} {er : Err} {e : Expr} {es : List Expr} {a : MA} {m : Nat} {p pos pos' : Pos} (Q : ExcO X.K X.mg G x er) (tk : Takes X (fun c d σ H => C.E σ c d H)) (ha : JA X G C.E μ (e :: es) a) (hl : ALen a m) (w : ModesLe C.μx μ = true := by rfl) (hm : m ≤ 1000 := by decide)
    (hc : X.calm = true := by rfl) (hg : Gl X x := by rfl) (hdb : (x == ("__debug__" : Str)) = false := by decide) (he : starEach (e :: es) X.env = (false, eval e X.env) :: starEach es X.env := by rfl) (hpl : (backTo pos (starEach es X.env)).any (·.1) = false := by rfl) :
    JS X G C μ μ' (.Raise (some (.Call (.Name x p) (e :: es) [] pos)) none pos') (mRaise er a) := by
  obtain ⟨t1, p1, s1⟩ := ha.ex
  obtain ⟨A, g, rfl, q, kC, b, t⟩ := Q.ex
  refine ⟨_, ps_raise hc tk (pmk_ownA PySem.F.excBase_ValueError q g kC (raises_own b t) hg p1 hdb he hpl), fun F S H σ ρ h D k => s1 F S H σ ρ h _ ?_⟩
  unfold mRaise at k
  cases q : a ρ with
  | ok ds ρ1 =>
    rw [q] at k
    intro vs S1 H1 e1 h1 q1
    refine ⟨le_line (by rw [q1.length, hl ρ ds ρ1 q]; exact hm), k μ σ _ none S1 H1 w e1 h1 ⟨rfl, ?_⟩⟩
    cases er with
    | line n => exact absurd rfl (Q.nl n)
    | _ => rfl
  | exc e ρ1 => rw [q] at k; exact xout w k
  | bad => rw [q] at k; exact k

/-! ### owned lists -/
def mLenO (i : Nat) : ME := fun ρ => match ρ.getD i .non with
  | .lst ds => .ok (.int ds.length) ρ
  | _ => .bad
theorem je_lenO {x y : Str} {i : Nat} {p p2 pos : Pos} (hm : X.mg y = none) (e : μ[i]? = some .o := by rfl) (hg : Gl X y := by rfl) (hv : bootBuiltins y = some (.builtin "len") := by decide +kernel) (hn : y ≠ "__name__" := by decide) (hdy : (y == ("__debug__" : Str)) = false := by decide)
    (hN : X.N[i]? = some x := by rfl) (hx : Vis X.env.scope x := by first | exact Or.inl rfl | exact Or.inr (Or.inl rfl) | exact Or.inr (Or.inr rfl)) (hd : (x == ("__debug__" : Str)) = false := by decide) (hcd : (x == ("__classdict__" : Str)) = false := by decide)
    (he : starEach [.Name x p2] X.env = (false, eval (.Name x p2) X.env) :: starEach [] X.env := by rfl) (hpl : (backTo pos (starEach [] X.env)).any (·.1) = false := by rfl) :
    JE X G E .d μ (.Call (.Name y p) [.Name x p2] [] pos) (mLenO i) := by
  refine ⟨_, pe_callB call_len_seq hg hm hv (pa_cons (pe_var hN hx hd hcd) pa_nil he) hn hdy he hpl, fun F S H σ ρ h Q k => ?_⟩
  obtain ⟨p, q1, q2⟩ := h.ovar e
  unfold mLenO at k
  generalize ρ.getD i .non = dg at q2 k
  refine ⟨_, q1, ?_⟩
  cases q2 with
  | lst a1 a2 => exact ⟨p, _, rfl, .inl (.inl (.inl a1)), by rw [a2.length]; exact k _ S H (Evl.Ex.refl S) (h.push (.int _))⟩
  | dK _ _ _ => exact k.elim
  | dT _ _ _ => exact k.elim
  | ins _ _ _ => exact k.elim
/-- an owned list in slot i -/
def lstAt (i : Nat) (ρ : List D) : Option (List D) := match ρ.getD i .non with
  | .lst ds => some ds
  | _ => none
theorem lstAt_some {i : Nat} {ρ : List D} {ds : List D} (h : lstAt i ρ = some ds) : ρ.getD i .non = .lst ds := by
  unfold lstAt at h
  split at h
  · cases h
    assumption
  · cases h
theorem EnvOk.olst {i : Nat} {p : Addr} {ds : List D} (h : EnvOk K G F S H μ σ ρ) (e : μ[i]? = some .o) (hp : σ[i]? = some (some (.ref p))) (hd : lstAt i ρ = some ds) : ∃ vs, H p = some (.lst vs) ∧ DatL K G S vs ds := by
  obtain ⟨p', q3, q4⟩ := h.ovar e
  rw [hp] at q3
  cases q3
  rw [lstAt_some hd] at q4
  cases q4 with
  | lst a1 a2 => exact ⟨_, a1, own_flat a2 rfl⟩
/-- x.append(e) -/
def mApp (i : Nat) (a : ME) : MS := fun ρ => match lstAt i ρ with
  | none => .bad
  | some _ => match a ρ with
    | .ok d ρ1 => match lstAt i ρ1 with
      | some ds => if ds.length < 1000000 then .nx (ρ1.set i (.lst (ds ++ [d]))) else .bad
      | none => .bad
    | .exc e ρ1 => .exc e ρ1
    | .bad => .bad
theorem lt_line {n : Nat} (h : n < 1000000) : n < sizeLine := Nat.lt_of_lt_of_le h (by decide)
theorem js_app {x : Str} {i : Nat} {a : Expr} {ma : ME} {p p2 p3 pos : Pos} (ha : JE X G C.E .d μ a ma) (e : μ[i]? = some .o := by rfl) (w : ModesLe C.μx μ = true := by rfl)
    (hN : X.N[i]? = some x := by rfl) (hx : Vis X.env.scope x := by first | exact Or.inl rfl | exact Or.inr (Or.inl rfl) | exact Or.inr (Or.inr rfl)) (hd : (x == ("__debug__" : Str)) = false := by decide) (hcd : (x == ("__classdict__" : Str)) = false := by decide)
    (hbase : attributeBase (.Name x p) "append" X.env (eval (.Name x p) X.env) = eval (.Name x p) X.env := by rfl)
    (hfew : ((backTo p3 (starEach [a] X.env)).all (fun x => !x.1) && (backToKw p3 (keywordEach [] X.env)).all (fun x => x.1.isSome)
      && decide (([a] : List Expr).length + ([] : List Keyword).length + (if ([] : List Keyword).isEmpty then 0 else 1) < 30)) = true := by rfl)
    (hline : (p2.endLine == p3.line) = true := by rfl)
    (he : starEach [a] X.env = (false, eval a X.env) :: starEach [] X.env := by rfl) (hpl : (backTo p3 (starEach [] X.env)).any (·.1) = false := by rfl)
    (hs : swapsWith (.Call (.Attribute (.Name x p) "append" p2) [a] [] p3) none pos.line X.env = pure false := by rfl) :
    JS X G C μ μ (.Expr (.Call (.Attribute (.Name x p) "append" p2) [a] [] p3) pos) (mApp i ma) := by
  obtain ⟨t1, p1, s1⟩ := ha.ex
  refine ⟨_, ps_expr (pe_bm PySem.F.plainAttrs_list PySem.F.slot_list_append PySem.F.type_list_append mt_append (pe_var hN hx hd hcd) (pa_cons p1 pa_nil he) hbase hfew hline he hpl) hs, fun F S H σ ρ h D k => ?_⟩
  obtain ⟨p, q1, q2⟩ := h.ovar e
  unfold mApp at k
  cases z : lstAt i ρ with
  | none => rw [z] at k; exact k.elim
  | some ds0 =>
    rw [z] at k
    dsimp only at k
    obtain ⟨vs0, z1, _⟩ := h.olst e q1 z
    refine ⟨_, q1, .inl ⟨rfl, vs0, .inl (.inl z1)⟩, s1 F S H σ ρ h _ ?_⟩
    cases q : ma ρ with
    | ok d ρ1 =>
      rw [q] at k
      intro v S1 H1 e1 h1
      dsimp only at k
      cases z2 : lstAt i ρ1 with
      | none => rw [z2] at k; exact k.elim
      | some ds =>
        rw [z2] at k
        dsimp only at k
        obtain ⟨vs, z3, z4⟩ := h1.tail.olst e q1 z2
        split at k
        · rename_i hl
          refine ⟨p, vs, v, rfl, rfl, z3, lt_line (by rw [z4.length]; exact hl), ?_⟩
          exact k σ S1 _ e1 (h1.tail.chO e q1 (.lst upd_same (OwnL.snoc h1.head z4.ownL)))
        · exact k.elim
    | exc e1 ρ1 => rw [q] at k; exact xout w k
    | bad => rw [q] at k; exact k
/-! ### targets -/
def bName (i : Nat) : MB := fun d ρ => some (ρ.set i d)
theorem jg_name {i : Nat} {x : Str} {pos : Pos} (hN : X.N.Nodup) (hi : X.N[i]? = some x := by rfl) (hx : Loc X.env.scope x := by first | exact Or.inl rfl | exact Or.inr rfl) (hlt : i < μ.length := by decide) (hf : X.fn x = true ∨ X.env.scope.names.lookup x = some .local := by first | exact .inl rfl | exact .inr rfl) :
    JG X G μ (μ.set i .d) (.Name x pos) (bName i) := ⟨_, pg_name hN hi hx hf, fun F S H σ ρ v d ρ' h q e Q k => by
  cases e
  exact k _ S H (Evl.Ex.refl S) ((h.push q).store hlt)⟩
def bNil : List D → List D → Option (List D) := fun ds ρ => match ds with
  | [] => some ρ
  | _ => none
def bCons (a : MB) (b : List D → List D → Option (List D)) : List D → List D → Option (List D) := fun ds ρ => match ds with
  | d :: ds => match a d ρ with
    | some ρ1 => b ds ρ1
    | none => none
  | [] => none
theorem jgs_nil : JGs X G μ μ [] bNil := ⟨_, pgs_nil, fun F S H σ ρ vs ds ρ' h q e Q k => by
  unfold bNil at e
  split at e
  · cases e
    cases q
    exact ⟨rfl, k σ S H (Evl.Ex.refl S) h⟩
  · cases e⟩
theorem jgs_cons {e : Expr} {es : List Expr} {a : MB} {b : List D → List D → Option (List D)} (h1 : JG X G μ μ1 e a) (h2 : JGs X G μ1 μ' es b)
    (hs : (assignEach (e :: es) X.env).map (·.2) = assign e X.env :: (assignEach es X.env).map (·.2) := by rfl) : JGs X G μ μ' (e :: es) (bCons a b) := by
  obtain ⟨t1, p1, s1⟩ := h1.ex
  obtain ⟨t2, p2, s2⟩ := h2.ex
  refine ⟨_, pgs_cons p1 p2 hs, fun F S H σ ρ vs ds ρ' h q e Q k => ?_⟩
  unfold bCons at e
  cases q with
  | nil => cases e
  | @cons v d vs ds q1 q2 =>
    dsimp only at e
    cases z : a d ρ with
    | none => rw [z] at e; cases e
    | some ρ1 =>
      rw [z] at e
      exact ⟨_, _, rfl, s1 F S H σ ρ _ _ ρ1 h q1 z _ fun σ1 S1 H1 e1 h1 => s2 F S1 H1 σ1 ρ1 _ _ ρ' h1 (q2.mono e1) e Q fun σ2 S2 H2 e2 h2 => k σ2 S2 H2 (e1.trans e2) h2⟩
def bTup (n : Nat) (b : List D → List D → Option (List D)) : MB := fun d ρ => match d with
  | .tup ds => if ds.length = n then b ds ρ else none
  | _ => none
theorem jg_tup {es : List Expr} {k n : Nat} {pos : Pos} {b : List D → List D → Option (List D)} (h : JGs X G μ μ' es b) (hc : X.calm = true := by rfl) (hn : (assignEach es X.env).length = n := by rfl) (hst : (assignEach es X.env).findIdx? (·.1) = none := by rfl) :
    JG X G μ μ' (.Tuple es k pos) (bTup n b) := by
  obtain ⟨t1, p1, s1⟩ := h.ex
  refine ⟨_, pg_tup hc p1 hn hst, fun F S H σ ρ v d ρ' h q e Q k => ?_⟩
  unfold bTup at e
  split at e
  · split at e
    · rename_i hl
      cases q with
      | tup a1 a2 => exact ⟨_, _, rfl, Evl.ex_t h.sh a1, by rw [a2.length, hl], s1 F S H σ ρ _ _ ρ' h a2 e Q k⟩
    · cases e
  · cases e
/-- target = e -/
def mAsgT (b : MB) (a : ME) : MS := fun ρ => match a ρ with
  | .ok d ρ1 => match b d ρ1 with
    | some ρ2 => .nx ρ2
    | none => .bad
  | .exc e ρ1 => .exc e ρ1
  | .bad => .bad
theorem js_asgT {tg e : Expr} {a : ME} {b : MB} {pos : Pos} (he : JE X G C.E .d μ e a) (hg : JG X G μ μ' tg b) (w : ModesLe C.μx μ = true := by rfl) (hs : swapsWithSole [tg] e pos.line X.env = pure false := by rfl) (hw : swappedStores [tg] e X.env = pure none := by rfl)
    (h1 : (assignEach [tg] X.env).map (·.2) = [assign tg X.env] := by rfl) : JS X G C μ μ' (.Assign [tg] e pos) (mAsgT b a) := by
  obtain ⟨t1, p1, s1⟩ := he.ex
  obtain ⟨t2, p2, s2⟩ := hg.ex
  refine ⟨_, ps_asg p1 p2 hs hw h1, fun F S H σ ρ h D k => s1 F S H σ ρ h _ ?_⟩
  unfold mAsgT at k
  cases q : a ρ with
  | ok d ρ1 =>
    rw [q] at k
    intro v S1 H1 e1 h1
    dsimp only at k
    cases z : b d ρ1 with
    | none => rw [z] at k; exact k.elim
    | some ρ2 =>
      rw [z] at k
      exact s2 F S1 H1 σ ρ1 v d ρ2 h1.tail h1.head z _ fun σ2 S2 H2 e2 h2 => k σ2 S2 H2 (e1.trans e2) h2
  | exc e1 ρ1 => rw [q] at k; exact xout w k
  | bad => rw [q] at k; exact k
/-- x, y = a, b with plain local names -/
def mPar (i j : Nat) (a b : ME) : MS := fun ρ => match a ρ with
  | .ok d ρ1 => match b ρ1 with
    | .ok d2 ρ2 => .nx ((ρ2.set i d).set j d2)
    | .exc e ρ1 => .exc e ρ1
    | .bad => .bad
  | .exc e ρ1 => .exc e ρ1
  | .bad => .bad
theorem js_par {i j : Nat} {x y : Str} {a b : Expr} {ma mb : ME} {px py pt pos : Pos} {kt k2 pt2} (hN : X.N.Nodup) (ha : JE X G C.E .d μ a ma) (hb : JE X G C.E .d μ b mb) (hi : X.N[i]? = some x := by rfl) (hj : X.N[j]? = some y := by rfl) (hij : i ≠ j := by decide)
    (hx : X.env.scope.names.lookup x = some .local := by rfl) (hy : X.env.scope.names.lookup y = some .local := by rfl) (hli : i < μ.length := by decide) (hlj : j < μ.length := by decide) (w : ModesLe C.μx μ = true := by rfl) (hc : X.calm = true := by rfl)
    (h1 : starEach [a, b] X.env = (false, eval a X.env) :: starEach [b] X.env := by rfl) (h2 : starEach [b] X.env = (false, eval b X.env) :: starEach [] X.env := by rfl)
    (hw : swappedStores [.Tuple [.Name x px, .Name y py] kt pt] (.Tuple [a, b] k2 pt2) X.env = pure (some [x, y]) := by rfl)
    (hs : swapsWithSole [.Tuple [.Name x px, .Name y py] kt pt] (.Tuple [a, b] k2 pt2) pos.line X.env = pure false := by rfl) :
    JS X G C μ ((μ.set i .d).set j .d) (.Assign [.Tuple [.Name x px, .Name y py] kt pt] (.Tuple [a, b] k2 pt2) pos) (mPar i j ma mb) := by
  obtain ⟨t1, p1, s1⟩ := ha.ex
  obtain ⟨t2, p2, s2⟩ := hb.ex
  refine ⟨_, ps_par hc hN hi hj hij hx hy (pa_cons p1 (pa_cons p2 pa_nil h2) h1) hw hs, fun F S H σ ρ h D k => s1 F S H σ ρ h _ ?_⟩
  unfold mPar at k
  cases q : ma ρ with
  | ok d ρ1 =>
    rw [q] at k
    intro v S1 H1 e1 h1
    refine s2 F S1 H1 σ ρ1 h1.tail _ ?_
    dsimp only at k
    have k1 := OutOk.mono e1 k
    cases q2 : mb ρ1 with
    | ok d2 ρ2 =>
      rw [q2] at k1
      intro v2 S2 H2 e2 h2
      refine ⟨v, v2, rfl, k1 _ S2 H2 e2 ?_⟩
      have h3 := (h2.tail.push (h1.head.mono e2)).store hli
      have h4 : EnvOk X.K G F S2 H2 (.d :: μ.set i .d) (some v2 :: σ.set i (some v)) (d2 :: ρ2.set i d) := h3.push h2.head
      exact h4.store (by simpa using hlj)
    | exc e2 ρ2 => rw [q2] at k1; exact xout w k1
    | bad => rw [q2] at k1; exact k1
  | exc e1 ρ1 => rw [q] at k; exact xout w k
  | bad => rw [q] at k; exact k

/-! ### what is walked -/
def itemsOf : D → Option (List D)
  | .lst ds => some ds
  | .scr ns => some (ns.map .int)
  | _ => none
def mItL (a : ME) : MA := fun ρ => (a ρ).bind fun d ρ1 => RR.of (itemsOf d) ρ1
theorem it_list {a : Addr} {vs : List V} {ds : List D} (h1 : SqL K S a vs) (h2 : DatL K G S vs ds) : ItOk K G S (Itl K a) ds := by
  have w := walk_list (K := K) (a := a) (xs := vs)
  refine ⟨fun i H hi e => w.goes i H (by rw [h2.length]; exact hi) (Evl.ex_l e h1), fun H e => by rw [← h2.length]; exact w.stops H (Evl.ex_l e h1), fun i H x H' d hd e y => .inl ?_⟩
  have hi : i < ds.length := (List.getElem?_eq_some_iff.mp hd).1
  obtain ⟨y1, y2⟩ := w.yields i H x H' (by rw [h2.length]; exact hi) (Evl.ex_l e h1) y
  obtain ⟨v, e1, e2⟩ := h2.get hd
  rw [y2] at e1
  cases e1
  exact ⟨y1, e2⟩
theorem it_tup {a : Addr} {vs : List V} {ds : List D} (h1 : SqT K S a vs) (h2 : DatL K G S vs ds) : ItOk K G S (Itt K a) ds := by
  have w := walk_tup (K := K) (a := a) (xs := vs)
  refine ⟨fun i H hi e => w.goes i H (by rw [h2.length]; exact hi) (Evl.ex_t e h1), fun H e => by rw [← h2.length]; exact w.stops H (Evl.ex_t e h1), fun i H x H' d hd e y => .inl ?_⟩
  have hi : i < ds.length := (List.getElem?_eq_some_iff.mp hd).1
  obtain ⟨y1, y2⟩ := w.yields i H x H' (by rw [h2.length]; exact hi) (Evl.ex_t e h1) y
  obtain ⟨v, e1, e2⟩ := h2.get hd
  rw [y2] at e1
  cases e1
  exact ⟨y1, e2⟩
theorem datL_ints : ∀ ns : List Int, DatL K G S (ns.map V.int) (ns.map D.int)
  | [] => .nil
  | n :: ns => .cons (.int n) (datL_ints ns)
theorem ji_list {tg e : Expr} {a : ME} (he : JE X G E .d μ e a) : JI X G E μ tg e (mItL a) := by
  obtain ⟨t1, p1, s1⟩ := he.ex
  refine ⟨_, pi_list p1, fun F S H σ ρ h R k => s1 F S H σ ρ h _ ?_⟩
  unfold mItL at k
  cases q : a ρ with
  | ok d ρ1 =>
    rw [q, bind_ok] at k
    intro v S1 H1 e1 h1
    have hd := h1.head
    cases hd with
    | lst a1 a2 => exact ⟨_, rfl, ⟨_, .inl (.inl (h1.sh _ _ a1))⟩, k _ S1 H1 e1 h1.tail (it_list (.inl (.inl a1)) a2)⟩
    | scr a1 => exact ⟨_, rfl, ⟨_, Evl.ex_l h1.sh a1⟩, k _ S1 H1 e1 h1.tail (it_list a1 (datL_ints _))⟩
    | _ => exact k.elim
  | exc e1 ρ1 => rw [q] at k; exact k
  | bad => rw [q] at k; exact k
def mItT (a : ME) : MA := fun ρ => (a ρ).bind fun d ρ1 => RR.of (match d with | .tup ds => some ds | _ => none) ρ1
theorem ji_tup {tg e : Expr} {a : ME} (he : JE X G E .d μ e a) : JI X G E μ tg e (mItT a) := by
  obtain ⟨t1, p1, s1⟩ := he.ex
  refine ⟨_, pi_tup p1, fun F S H σ ρ h R k => s1 F S H σ ρ h _ ?_⟩
  unfold mItT at k
  cases q : a ρ with
  | ok d ρ1 =>
    rw [q, bind_ok] at k
    intro v S1 H1 e1 h1
    have hd := h1.head
    cases hd with
    | tup a1 a2 => exact ⟨_, rfl, ⟨_, Evl.ex_t h1.sh a1⟩, k _ S1 H1 e1 h1.tail (it_tup a1 a2)⟩
    | _ => exact k.elim
  | exc e1 ρ1 => rw [q] at k; exact k
  | bad => rw [q] at k; exact k
/-- range(n), range(m, n) -/
def ilist (lo : Int) (n : Nat) : List D := (List.range n).map fun (i : Nat) => .int (lo + (i : Int))
theorem it_range {lo : Int} {n : Nat} : ItOk K G S (Itr lo n) (ilist lo n) := by
  have w := walk_range (lo := lo) (n := n)
  have l : (ilist lo n).length = n := by simp [ilist]
  refine ⟨fun i H hi e => w.goes i H (by rw [← l]; exact hi) trivial, fun H e => by rw [l]; exact w.stops H trivial, fun i H x H' d hd e y => .inl ?_⟩
  have hi : i < n := by rw [← l]; exact (List.getElem?_eq_some_iff.mp hd).1
  obtain ⟨y1, y2⟩ := w.yields i H x H' hi trivial y
  refine ⟨y1, ?_⟩
  have : (ilist lo n)[i]? = some (.int (lo + (i : Int))) := by simp [ilist, hi]
  rw [this] at hd
  cases hd
  rw [y2]
  exact .int _
def rng1 : List D → Option (List D)
  | [.int j] => if -1000000 ≤ j ∧ j ≤ 1000000 then some (ilist 0 j.toNat) else none
  | _ => none
def rng2 : List D → Option (List D)
  | [.int i, .int j] => if -1000000 ≤ i ∧ i ≤ 1000000 ∧ -1000000 ≤ j ∧ j ≤ 1000000 then some (ilist i (j - i).toNat) else none
  | _ => none
def mRng (f : List D → Option (List D)) (a : MA) : MA := fun ρ => (a ρ).bind fun ds ρ1 => RR.of (f ds) ρ1
theorem ji_rng1 {tg e : Expr} {a : MA} {p pos : Pos} (hm : X.mg "range" = none) (he : JA X G E μ [e] a) (hg : Gl X "range" := by rfl) (hs : starEach [e] X.env = [(false, eval e X.env)] := by rfl) : JI X G E μ tg (.Call (.Name "range" p) [e] [] pos) (mRng rng1 a) := by
  obtain ⟨t1, p1, s1⟩ := he.ex
  refine ⟨_, pi_range1 hg hm p1 hs, fun F S H σ ρ h R k => s1 F S H σ ρ h _ ?_⟩
  unfold mRng at k
  cases q : a ρ with
  | ok ds ρ1 =>
    rw [q, bind_ok] at k
    intro vs S1 H1 e1 h1 q1
    match ds, q1, k with
    | [.int j], .cons q2 .nil, k =>
      cases q2
      have k' : IOk X.K G E μ F S σ R (RR.of (if -1000000 ≤ j ∧ j ≤ 1000000 then some (ilist 0 j.toNat) else none) ρ1) := k
      split at k'
      · rename_i hc
        exact ⟨j, rfl, by omega, by omega, k' _ S1 H1 e1 h1 it_range⟩
      · exact k'.elim
  | exc e1 ρ1 => rw [q] at k; exact k
  | bad => rw [q] at k; exact k
theorem ji_rng2 {tg e e2 : Expr} {a : MA} {p pos : Pos} (hm : X.mg "range" = none) (he : JA X G E μ [e, e2] a) (hg : Gl X "range" := by rfl) (hs : starEach [e, e2] X.env = [(false, eval e X.env), (false, eval e2 X.env)] := by rfl) (hs2 : starEach [e2] X.env = [(false, eval e2 X.env)] := by rfl) :
    JI X G E μ tg (.Call (.Name "range" p) [e, e2] [] pos) (mRng rng2 a) := by
  obtain ⟨t1, p1, s1⟩ := he.ex
  refine ⟨_, pi_range2 hg hm p1 hs hs2, fun F S H σ ρ h R k => s1 F S H σ ρ h _ ?_⟩
  unfold mRng at k
  cases q : a ρ with
  | ok ds ρ1 =>
    rw [q, bind_ok] at k
    intro vs S1 H1 e1 h1 q1
    match ds, q1, k with
    | [.int i, .int j], .cons q2 (.cons q3 .nil), k =>
      cases q2
      cases q3
      have k' : IOk X.K G E μ F S σ R (RR.of (if -1000000 ≤ i ∧ i ≤ 1000000 ∧ -1000000 ≤ j ∧ j ≤ 1000000 then some (ilist i (j - i).toNat) else none) ρ1) := k
      split at k'
      · rename_i hc
        exact ⟨i, j, rfl, by omega, k' _ S1 H1 e1 h1 it_range⟩
      · exact k'.elim
  | exc e1 ρ1 => rw [q] at k; exact k
  | bad => rw [q] at k; exact k
end
end MR

set_option Elab.async false
set_option linter.all false
set_option maxRecDepth 100000
set_option maxHeartbeats 1000000
/-! MB6: owned results, comprehensions. -/
namespace MR
open PySem L2 PyProof.Rows
section
variable {X : Cx} {G : Cl} {E : XS} {C : SC} {μ μ' μ1 : List Mode} {r : Mode}
variable {K : PySem.W.Frag} {F S H : Hp} {σ : L2.St} {ρ : List D}
/-- an owned result is frozen -/
theorem je_frz {e : Expr} {m : ME} (h : JE X G E .o μ e m) : JE X G E .d μ e m := by
  obtain ⟨t1, p1, s1⟩ := h.ex
  refine ⟨t1, p1, fun F S H σ ρ h Q k => s1 F S H σ ρ h _ ?_⟩
  cases q : m ρ with
  | ok d ρ1 =>
    rw [q] at k
    intro v S1 H1 e1 h1
    obtain ⟨S2, e2, h2⟩ := h1.frz (i := 0) (.inl rfl)
    exact k v S2 H1 (e1.trans e2) h2
  | exc e1 ρ1 => rw [q] at k; exact k
  | bad => rw [q] at k; exact k
/-- an owned variable is handed out -/
theorem EnvOk.give {i : Nat} {s : Option V} (h : EnvOk K G F S H μ σ ρ) (e : μ[i]? = some .o) (hs : σ[i]? = some s) : EnvOk K G F S H (.o :: μ.set i .x) (s :: σ) (ρ.getD i .non :: ρ) := by
  obtain ⟨fp, ⟨f1, f2, f3⟩, f4, sl, th⟩ := h.fps
  have hi : i < μ.length := (List.getElem?_eq_some_iff.mp e).1
  refine ⟨h.sh, h.fk, by simp [h.ls], by simp [h.lr], fun j => match j with | 0 => fp i | j + 1 => if j = i then [] else fp j, ⟨?_, ?_, ?_⟩, ?_, ?_⟩
  · intro j a ha
    cases j with
    | zero => exact f1 i a ha
    | succ j =>
      dsimp only at ha
      split at ha
      · cases ha
      · exact f1 j a ha
  · intro j k a ha hb
    cases j with
    | zero =>
      cases k with
      | zero => rfl
      | succ k =>
        dsimp only at ha hb
        split at hb
        · cases hb
        · exact absurd (f2 i k a ha hb).symm (by assumption)
    | succ j =>
      cases k with
      | zero =>
        dsimp only at ha hb
        split at ha
        · cases ha
        · exact absurd (f2 i j a hb ha).symm (by assumption)
      | succ k =>
        dsimp only at ha hb
        split at ha
        · cases ha
        · split at hb
          · cases hb
          · exact congrArg (· + 1) (f2 j k a ha hb)
  · intro j
    cases j with
    | zero => exact f3 i
    | succ j =>
      show (if j = i then [] else fp j).Nodup
      split
      · exact List.nodup_nil
      · exact f3 j
  · intro j hj
    cases j with
    | zero => simp at hj
    | succ j =>
      show (if j = i then [] else fp j) = []
      split
      · rfl
      · exact f4 j (by simpa using hj)
  · intro j m e2
    cases j with
    | zero =>
      simp only [List.getElem?_cons_zero, Option.some.injEq] at e2
      subst e2
      have z := sl i .o e
      rw [hs] at z
      simpa using z
    | succ j =>
      rw [List.getElem?_cons_succ] at e2
      by_cases hj : j = i
      · subst hj
        rw [List.getElem?_set_self hi] at e2
        cases e2
        show (if j = j then [] else fp j) = []
        rw [if_pos rfl]
      · rw [List.getElem?_set_ne (Ne.symm hj)] at e2
        have z := sl j m e2
        show SlotOk K G S H m _ _ (if j = i then [] else fp j)
        rw [if_neg hj]
        simpa using z
def mRetO (i : Nat) : MS := fun ρ => .ret (ρ.getD i .non) ρ
theorem js_retO {x : Str} {i : Nat} {p pos : Pos} (hr : C.rm = .o := by rfl) (e : μ[i]? = some .o := by rfl) (w : ModesLe C.μx (μ.set i .x) = true := by rfl) (hN : X.N[i]? = some x := by rfl) (hx : Vis X.env.scope x := by first | exact Or.inl rfl | exact Or.inr (Or.inl rfl) | exact Or.inr (Or.inr rfl)) (hd : (x == ("__debug__" : Str)) = false := by decide) (hcd : (x == ("__classdict__" : Str)) = false := by decide) :
    JS X G C μ μ' (.Return (some (.Name x p)) pos) (mRetO i) := by
  refine ⟨_, ps_ret (pe_var hN hx hd hcd), fun F S H σ ρ h D k => ?_⟩
  obtain ⟨p, q1, q2⟩ := h.ovar e
  refine ⟨_, q1, k _ (μ.set i .x) σ S H w (Evl.Ex.refl S) ?_⟩
  rw [hr]
  exact h.give e q1
/-- the truth of an owned list -/
def mTrO (i : Nat) : MT := fun ρ => match lstAt i ρ with
  | some ds => .ok (!ds.isEmpty) ρ
  | none => .bad
theorem jt_trO {x : Str} {i : Nat} {p : Pos} (e : μ[i]? = some .o := by rfl) (hN : X.N[i]? = some x := by rfl) (hx : Vis X.env.scope x := by first | exact Or.inl rfl | exact Or.inr (Or.inl rfl) | exact Or.inr (Or.inr rfl)) (hd : (x == ("__debug__" : Str)) = false := by decide) (hcd : (x == ("__classdict__" : Str)) = false := by decide)
    (he : ∀ whole, isTrue (.Name x p) X.env whole = (do let v ← whole; standAt (Expr.pos (.Name x p)); holding [v] (truthy v)) := by intro _; rfl) : JT X G E μ (.Name x p) (mTrO i) := by
  refine ⟨_, pt_truth (pe_var hN hx hd hcd) he, fun F S H σ ρ h Q k => ?_⟩
  obtain ⟨p, q1, q2⟩ := h.ovar e
  unfold mTrO at k
  cases z : lstAt i ρ with
  | none => rw [z] at k; exact k.elim
  | some ds =>
    rw [z] at k
    obtain ⟨vs, z1, z2⟩ := h.olst e q1 z
    refine ⟨_, q1, !ds.isEmpty, .inl ⟨vs, .inl (.inl z1), ?_⟩, k S H (Evl.Ex.refl S) h⟩
    cases z2 <;> rfl

/-! ### a list that is being made stands with what is foreign -/
theorem EnvOk.addF {p : Addr} {o : HO} (h : EnvOk K G F S H μ σ ρ) (hp : H p = none) : EnvOk K G (upd F p o) S (upd H p o) μ σ ρ := by
  have hS : S p = none := ex_none h.sh hp
  obtain ⟨fp, ⟨f1, f2, f3⟩, f4, sl, th⟩ := h.fps
  have np : ∀ i a, a ∈ fp i → a ≠ p := fun i a hi z => by
    obtain ⟨o', e⟩ := th i a hi
    rw [z, hp] at e
    cases e
  have e2 : Ex H (upd H p o) := Evl.Ex.new hp
  refine ⟨h.sh.trans e2, fun a u q => ?_, h.ls, h.lr, fp, ⟨fun i a ha => ⟨(f1 i a ha).1, by rw [upd_ne (np i a ha)]; exact (f1 i a ha).2⟩, f2, f3⟩, f4, fun i m q => (sl i m q).mono (Evl.Ex.refl S) fun a ha => upd_ne (np i a ha)⟩
  by_cases z : a = p
  · subst z
    rw [upd_same] at q ⊢
    exact ⟨q, hS⟩
  · rw [upd_ne z] at q ⊢
    exact h.fk a u q
theorem EnvOk.chF {p : Addr} {o o' : HO} (h : EnvOk K G (upd F p o) S H μ σ ρ) : EnvOk K G (upd F p o') S (upd H p o') μ σ ρ := by
  obtain ⟨hp, hS⟩ := h.fk p o upd_same
  obtain ⟨fp, ⟨f1, f2, f3⟩, f4, sl, th⟩ := h.fps
  have np : ∀ i a, a ∈ fp i → a ≠ p := fun i a hi z => by
    have := (f1 i a hi).2
    rw [z, upd_same] at this
    cases this
  refine ⟨fun a u z => ?_, fun a u q => ?_, h.ls, h.lr, fp, ⟨fun i a ha => ⟨(f1 i a ha).1, ?_⟩, f2, f3⟩, f4, fun i m q => (sl i m q).mono (Evl.Ex.refl S) fun a ha => upd_ne (np i a ha)⟩
  · rw [upd_ne (ne_of_none z hS)]
    exact h.sh _ _ z
  · by_cases z : a = p
    · subst z
      rw [upd_same] at q ⊢
      exact ⟨q, hS⟩
    · rw [upd_ne z] at q ⊢
      exact h.fk a u (by rw [upd_ne z]; exact q)
  · have := (f1 i a ha).2
    rw [upd_ne (np i a ha)] at this ⊢
    exact this
theorem EnvOk.takeF {p : Addr} {vs : List V} {ds : List D} (h : EnvOk K G (upd F p (.lst vs)) S H μ σ ρ) (hF : F p = none) (q : DatL K G S vs ds) : EnvOk K G F S H (.o :: μ) (some (.ref p) :: σ) (.lst ds :: ρ) := by
  obtain ⟨hp, hS⟩ := h.fk p _ upd_same
  obtain ⟨fp, ⟨f1, f2, f3⟩, f4, sl, th⟩ := h.fps
  have np : ∀ i a, a ∈ fp i → a ≠ p := fun i a hi z => by
    have := (f1 i a hi).2
    rw [z, upd_same] at this
    cases this
  refine ⟨h.sh, fun a u z => h.fk a u (by rw [upd_ne (ne_of_none z hF)]; exact z), by simp [h.ls], by simp [h.lr], fun i => match i with | 0 => [p] | i + 1 => fp i, ⟨?_, ?_, ?_⟩, ?_, ?_⟩
  · intro i a ha
    cases i with
    | zero =>
      rw [List.mem_singleton.mp ha]
      exact ⟨hS, hF⟩
    | succ i =>
      refine ⟨(f1 i a ha).1, ?_⟩
      have := (f1 i a ha).2
      rw [upd_ne (np i a ha)] at this
      exact this
  · intro i j a ha hb
    cases i with
    | zero =>
      cases j with
      | zero => rfl
      | succ j => exact absurd (List.mem_singleton.mp ha) (np j a hb)
    | succ i =>
      cases j with
      | zero => exact absurd (List.mem_singleton.mp hb) (np i a ha)
      | succ j => exact congrArg (· + 1) (f2 i j a ha hb)
  · intro i
    cases i with
    | zero => exact List.nodup_cons.mpr ⟨by simp, List.nodup_nil⟩
    | succ i => exact f3 i
  · intro i hi
    cases i with
    | zero => simp at hi
    | succ i => exact f4 i (by simpa using hi)
  · intro i m e
    cases i with
    | zero =>
      simp only [List.getElem?_cons_zero, Option.some.injEq] at e
      subst e
      exact ⟨p, rfl, .lst hp q.ownL, rfl⟩
    | succ i =>
      have z := sl i m (by simpa using e)
      simpa using z
/-- slots that are not known may hold anything -/
theorem EnvOk.swapσ {σ' : L2.St} (h : EnvOk K G F S H μ σ ρ) (hl : σ'.length = σ.length) (k : ∀ (i : Nat) (m : Mode), μ[i]? = some m → m ≠ Mode.x → σ'[i]? = σ[i]?) : EnvOk K G F S H μ σ' ρ := by
  obtain ⟨sh, fk, ls, lr, fp, f, f4, sl⟩ := h
  refine ⟨sh, fk, hl.trans ls, lr, fp, f, f4, fun i m e => ?_⟩
  have z := sl i m e
  cases m with
  | x => exact z
  | _ => rw [k i _ e (by simp)]; exact z
theorem wipe_get (σ : L2.St) : ∀ (vs : List Nat) (i : Nat), i ∉ vs → (wipe σ vs)[i]? = σ[i]?
  | [], _, _ => rfl
  | v :: vs, i, h => by
    have h1 : v ≠ i := fun z => h (by simp [z])
    have h2 : i ∉ vs := fun z => h (List.mem_cons_of_mem _ z)
    show ((wipe σ vs).set v none)[i]? = _
    rw [List.getElem?_set_ne h1]
    exact wipe_get σ vs i h2
def allX (μ : List Mode) (vs : List Nat) : Bool := vs.all fun i => decide (μ[i]? = some .x)
theorem EnvOk.wipe {vs : List Nat} (h : EnvOk K G F S H μ σ ρ) (hx : allX μ vs = true) : EnvOk K G F S H μ (L2.wipe σ vs) ρ := by
  refine h.swapσ (wipe_length σ vs) fun i m e n => wipe_get σ vs i fun hi => ?_
  have := List.all_eq_true.mp hx i hi
  rw [decide_eq_true_iff, e] at this
  exact n (Option.some.inj this)
theorem wipe_wipe (σ : L2.St) (vs : List Nat) : L2.wipe (L2.wipe σ vs) vs = L2.wipe σ vs := by
  apply List.ext_getElem?
  intro i
  by_cases h : i ∈ vs
  · have key : ∀ (τ : L2.St) (ws : List Nat), i ∈ ws → i < τ.length → (L2.wipe τ ws)[i]? = some none := by
      intro τ ws
      induction ws with
      | nil => intro h; cases h
      | cons w ws ih =>
        intro h hl
        show ((L2.wipe τ ws).set w none)[i]? = _
        by_cases e : w = i
        · subst e
          rw [List.getElem?_set_self (by rw [wipe_length]; exact hl)]
        · rw [List.getElem?_set_ne e]
          rcases List.mem_cons.mp h with z | z
          · exact absurd z.symm e
          · exact ih z hl
    by_cases hl : i < σ.length
    · rw [key _ vs h (by rw [wipe_length]; exact hl), key _ vs h hl]
    · rw [List.getElem?_eq_none (by rw [wipe_length, wipe_length]; omega), List.getElem?_eq_none (by rw [wipe_length]; omega)]
  · rw [wipe_get _ vs i h]
/-- a target writes these slots alone -/
def GW (g : TG) (vs : List Nat) : Prop := ∀ v σ H Q (Q' : L2.St → Hp → Prop), g v σ H Q → (∀ σ2 H2, L2.wipe σ2 vs = L2.wipe σ vs → Q σ2 H2 → Q' σ2 H2) → g v σ H Q'
def GWs (g : TGs) (vs : List Nat) : Prop := ∀ v σ H Q (Q' : L2.St → Hp → Prop), g v σ H Q → (∀ σ2 H2, L2.wipe σ2 vs = L2.wipe σ vs → Q σ2 H2 → Q' σ2 H2) → g v σ H Q'
theorem wipe_set {σ : L2.St} {vs : List Nat} {i : Nat} {s : Option V} (h : i ∈ vs) : L2.wipe (σ.set i s) vs = L2.wipe σ vs := by
  induction vs with
  | nil => cases h
  | cons w ws ih =>
    show (L2.wipe (σ.set i s) ws).set w none = (L2.wipe σ ws).set w none
    by_cases e : i ∈ ws
    · rw [ih e]
    · rcases List.mem_cons.mp h with z | z
      · subst z
        have : L2.wipe (σ.set i s) ws = (L2.wipe σ ws).set i s := by
          clear ih h
          induction ws with
          | nil => rfl
          | cons u us ih2 =>
            have e2 : i ∉ us := fun z => e (List.mem_cons_of_mem _ z)
            have e3 : i ≠ u := fun z => e (by simp [z])
            show (L2.wipe (σ.set i s) us).set u none = ((L2.wipe σ us).set u none).set i s
            rw [ih2 e2, List.set_comm _ _ (Ne.symm e3)]
        rw [this, List.set_set]
      · exact absurd z e
theorem gw_name {i : Nat} {vs : List Nat} (h : i ∈ vs) : GW (gName i) vs := fun v σ H Q Q' q k => k _ _ (wipe_set h) q
theorem gws_nil {vs : List Nat} : GWs gNil vs := fun v σ H Q Q' ⟨e, q⟩ k => ⟨e, k _ _ rfl q⟩
structure JGc (X : Cx) (G : Cl) (μ μ' : List Mode) (vs : List Nat) (e : Expr) (b : MB) : Prop where
  ex : ∃ g, PG X e g ∧ SG X.K G μ μ' g b ∧ GW g vs
structure JGcs (X : Cx) (G : Cl) (μ μ' : List Mode) (vs : List Nat) (es : List Expr) (b : List D → List D → Option (List D)) : Prop where
  ex : ∃ g, PGs X es g ∧ (∀ F S H σ ρ vs ds ρ', EnvOk X.K G F S H μ σ ρ → DatL X.K G S vs ds → b ds ρ = some ρ' →
    ∀ Q : L2.St → Hp → Prop, (∀ σ' S' H', Ex S S' → EnvOk X.K G F S' H' μ' σ' ρ' → Q σ' H') → g vs σ H Q) ∧ GWs g vs
theorem jgc_name {i : Nat} {x : Str} {pos : Pos} {vs : List Nat} (hN : X.N.Nodup) (hv : i ∈ vs := by decide) (hi : X.N[i]? = some x := by rfl) (hx : Loc X.env.scope x := by first | exact Or.inl rfl | exact Or.inr rfl) (hlt : i < μ.length := by decide) (hf : X.fn x = true ∨ X.env.scope.names.lookup x = some .local := by first | exact .inl rfl | exact .inr rfl) :
    JGc X G μ (μ.set i .d) vs (.Name x pos) (bName i) := ⟨_, pg_name hN hi hx hf, fun F S H σ ρ v d ρ' h q e Q k => by
  cases e
  exact k _ S H (Evl.Ex.refl S) ((h.push q).store hlt), gw_name hv⟩
theorem jgcs_nil {vs : List Nat} : JGcs X G μ μ vs [] bNil := by
  refine ⟨_, pgs_nil, fun F S H σ ρ vs ds ρ' h q e Q k => ?_, gws_nil⟩
  unfold bNil at e
  split at e
  · cases e
    cases q
    exact ⟨rfl, k σ S H (Evl.Ex.refl S) h⟩
  · cases e
theorem jgcs_name {i : Nat} {x : Str} {pos : Pos} {vs : List Nat} {es : List Expr} {b : List D → List D → Option (List D)} (hN : X.N.Nodup) (h2 : JGcs X G (μ.set i .d) μ' vs es b) (hv : i ∈ vs := by decide) (hi : X.N[i]? = some x := by rfl) (hx : Loc X.env.scope x := by first | exact Or.inl rfl | exact Or.inr rfl) (hlt : i < μ.length := by decide) (hf : X.fn x = true ∨ X.env.scope.names.lookup x = some .local := by first | exact .inl rfl | exact .inr rfl)
    (hs : (assignEach (.Name x pos :: es) X.env).map (·.2) = assign (.Name x pos) X.env :: (assignEach es X.env).map (·.2) := by rfl) : JGcs X G μ μ' vs (.Name x pos :: es) (bCons (bName i) b) := by
  obtain ⟨t2, p2, s2, w2⟩ := h2.ex
  refine ⟨_, pgs_cons (pg_name hN hi hx hf) p2 hs, fun F S H σ ρ vs ds ρ' h q e Q k => ?_, fun v σ H Q Q' ⟨v1, r1, e1, q1⟩ k => ⟨v1, r1, e1, ?_⟩⟩
  · unfold bCons at e
    cases q with
    | nil => cases e
    | @cons v d vs ds q1 q2 => exact ⟨_, _, rfl, s2 F S H _ _ _ _ ρ' ((h.push q1).store hlt) q2 e Q k⟩
  · exact w2 _ _ _ _ Q' q1 fun σ2 H2 e2 q2 => k σ2 H2 (e2.trans (wipe_set hv)) q2
theorem jgc_tup {es : List Expr} {k n : Nat} {pos : Pos} {vs : List Nat} {b : List D → List D → Option (List D)} (h : JGcs X G μ μ' vs es b) (hc : X.calm = true := by rfl) (hn : (assignEach es X.env).length = n := by rfl) (hst : (assignEach es X.env).findIdx? (·.1) = none := by rfl) :
    JGc X G μ μ' vs (.Tuple es k pos) (bTup n b) := by
  obtain ⟨t1, p1, s1, w1⟩ := h.ex
  refine ⟨_, pg_tup hc p1 hn hst, fun F S H σ ρ v d ρ' h q e Q k => ?_, fun v σ H Q Q' ⟨a, xs, e1, e2, e3, q1⟩ k => ⟨a, xs, e1, e2, e3, w1 _ _ _ _ Q' q1 k⟩⟩
  unfold bTup at e
  split at e
  · split at e
    · rename_i hl
      cases q with
      | tup a1 a2 => exact ⟨_, _, rfl, Evl.ex_t h.sh a1, by rw [a2.length, hl], s1 F S H σ ρ _ _ ρ' h a2 e Q k⟩
    · cases e
  · cases e

/-! ### comprehensions -/
structure JTs (X : Cx) (G : Cl) (E : XS) (μ : List Mode) (es : List Expr) (m : MT) : Prop where
  ex : ∃ t, PTs X es t ∧ ST X.K G E μ t m
def mYes : MT := fun ρ => .ok true ρ
theorem jts_nil : JTs X G E μ [] mYes := ⟨_, pts_nil, fun F S H σ ρ h Q k => k S H (Evl.Ex.refl S) h⟩
theorem jts_one {c : Expr} {m : MT} (h : JT X G E μ c m) : JTs X G E μ [c] m := let ⟨t, p, s⟩ := h.ex; ⟨t, pts_one p, s⟩
def lcL (b : MB) (t : MT) (a : ME) (μ : List Mode) : List D → List D → List D → RR D
  | [], acc, ρ => .ok (.lst acc) ρ
  | d :: ds, acc, ρ => match b d ρ with
    | none => .bad
    | some ρ1 => match t ρ1 with
      | .ok true ρ2 => match a ρ2 with
        | .ok x ρ3 => if acc.length < 1000000 then lcL b t a μ ds (acc ++ [x]) (keep μ ρ3) else .bad
        | _ => .bad
      | .ok false ρ2 => lcL b t a μ ds acc (keep μ ρ2)
      | _ => .bad
def mLc (it : MA) (b : MB) (t : MT) (a : ME) (μ : List Mode) : ME := fun ρ => (it ρ).bind fun ds ρ1 => lcL b t a μ ds [] ρ1
/-- what a comprehension's target asks of its reading -/
def SGW (K : PySem.W.Frag) (G : Cl) (μ μ' : List Mode) (vs : List Nat) (g : TG) (b : MB) : Prop := ∀ F S H σ ρ v d ρ', EnvOk K G F S H μ σ ρ → Dat K G S v d → b d ρ = some ρ' →
  ∀ Q : L2.St → Hp → Prop, (∀ σ' S' H', Ex S S' → EnvOk K G F S' H' μ' σ' ρ' → L2.wipe σ' vs = L2.wipe σ vs → Q σ' H') → g v σ H Q
theorem se_lc {vs : List Nat} {wi : TI} {g : TG} {tt : TT} {te : TE} {it : MA} {b : MB} {t : MT} {a : ME} (s1 : SI K G E μ wi it) (s2 : SGW K G μ μ1 vs g b) (s3 : ST K G (fun _ => E0) μ1 tt t) (s4 : SE K G (fun _ => E0) .d μ1 te a)
    (hx : allX μ vs = true) (hm : ModesLe μ μ1 = true) : SE K G E .o μ (tLc wi g tt te vs) (mLc it b t a μ) := by
  intro F S H σ ρ h Q k
  refine s1 F S H σ ρ h _ ?_
  unfold mLc at k
  cases q : it ρ with
  | ok ds ρ1 =>
    rw [q, bind_ok] at k
    intro J S1 H1 e1 h1 J1 D hD
    have hF : F D = none := h1.freshF hD
    refine ⟨fun i m H2 => m = ds.length - i ∧ i ≤ ds.length ∧ ∃ S2 ρ2 acc vacc, Ex S1 S2 ∧ EnvOk K G (upd F D (.lst vacc)) S2 H2 μ σ ρ2 ∧ DatL K G S2 vacc acc ∧ EOk K G E .o μ F S2 σ Q (lcL b t a μ (ds.drop i) acc ρ2), ⟨ds.length, by simp, Nat.zero_le _, S1, ρ1, [], [], Evl.Ex.refl S1, h1.addF hD, .nil, EOk.mono e1 k⟩, ?_⟩
    rintro i m H2 ⟨rfl, hi, S2, ρ2, acc, vacc, e2, h2, q2, k2⟩
    obtain ⟨hD2, hS2⟩ := h2.fk D _ upd_same
    by_cases hlt : i < ds.length
    · refine .inr ⟨J1.goes i H2 hlt (e2.trans h2.sh), fun H3 => ∃ S3 ρ3 acc vacc, Ex S1 S3 ∧ EnvOk K G (upd F D (.lst vacc)) S3 H3 μ σ ρ3 ∧ DatL K G S3 vacc acc ∧ EOk K G E .o μ F S3 σ Q (lcL b t a μ (ds.drop (i + 1)) acc ρ3), fun H3 z => ⟨ds.length - (i + 1), by omega, rfl, hlt, z⟩, fun x H' y => ?_⟩
      obtain ⟨S3, e3, h3, q3⟩ := J1.item h2 e2 (List.getElem?_eq_getElem hlt) y
      rw [List.drop_eq_getElem_cons hlt] at k2
      unfold lcL at k2
      have h3' := h3.wipe hx
      cases q4 : b ds[i] ρ2 with
      | none => rw [q4] at k2; exact k2.elim
      | some ρ3 =>
        rw [q4] at k2
        -- what the rest asks is carried with where the slots stand
        have main : ∀ σ4 S4 H4, Ex S3 S4 → EnvOk K G (upd F D (.lst vacc)) S4 H4 μ1 σ4 ρ3 → L2.wipe σ4 vs = L2.wipe σ vs → tt σ4 H4 fun c H5 => if c = true then te σ4 H5 fun y H6 => ∃ acc, H6 D = some (.lst acc) ∧ acc.length < sizeLine ∧ (∃ S3 ρ3 acc' vacc, Ex S1 S3 ∧ EnvOk K G (upd F D (.lst vacc)) S3 (upd H6 D (.lst (acc ++ [y]))) μ σ ρ3 ∧ DatL K G S3 vacc acc' ∧ EOk K G E .o μ F S3 σ Q (lcL b t a μ (ds.drop (i + 1)) acc' ρ3))
            else ∃ S3 ρ3 acc vacc, Ex S1 S3 ∧ EnvOk K G (upd F D (.lst vacc)) S3 H5 μ σ ρ3 ∧ DatL K G S3 vacc acc ∧ EOk K G E .o μ F S3 σ Q (lcL b t a μ (ds.drop (i + 1)) acc ρ3) := by
          intro σ4 S4 H4 e4 h4 hw
          have back : ∀ {S5 H5 ρ5} {F' : Hp}, EnvOk K G F' S5 H5 μ1 σ4 ρ5 → EnvOk K G F' S5 H5 μ σ (keep μ ρ5) := fun h5 => by
            have z := (h5.weak hm)
            refine (z.swapσ (σ' := σ) ?_ fun j m e n => ?_)
            · have := congrArg List.length hw
              rw [wipe_length, wipe_length] at this
              exact this.symm
            · have hj : j ∉ vs := fun hj => by
                have := List.all_eq_true.mp hx j hj
                rw [decide_eq_true_iff, e] at this
                exact n (Option.some.inj this)
              rw [← wipe_get σ vs j hj, ← hw, wipe_get σ4 vs j hj]
          refine s3 _ S4 H4 σ4 ρ3 h4 _ ?_
          have k3 := EOk.mono (e3.trans e4) k2
          dsimp only at k3
          cases q5 : t ρ3 with
          | ok c ρ4 =>
            rw [q5] at k3
            intro S5 H5 e5 h5
            cases c with
            | true =>
              rw [if_pos rfl]
              refine s4 _ S5 H5 σ4 ρ4 h5 _ ?_
              have k4 := EOk.mono e5 k3
              dsimp only at k4
              cases q6 : a ρ4 with
              | ok z ρ5 =>
                rw [q6] at k4
                intro v S6 H6 e6 h6
                dsimp only at k4
                split at k4
                · rename_i hl
                  have h7 := h6.tail
                  obtain ⟨hD6, hS6⟩ := h7.fk D _ upd_same
                  have q7 := (((q2.mono e3).mono e4).mono e5).mono e6
                  exact ⟨vacc, hD6, lt_line (by rw [q2.length]; exact hl), S6, _, _, _, (((e2.trans e3).trans e4).trans e5).trans e6, back h7.chF, q7.append (.cons h6.head .nil), EOk.mono e6 k4⟩
                · exact k4.elim
              | exc _ _ => rw [q6] at k4; exact k4.elim
              | bad => rw [q6] at k4; exact k4.elim
            | false =>
              rw [if_neg Bool.false_ne_true]
              exact ⟨S5, _, acc, vacc, ((e2.trans e3).trans e4).trans e5, back h5, ((q2.mono e3).mono e4).mono e5, EOk.mono e5 k3⟩
          | exc _ _ => rw [q5] at k3; exact k3.elim
          | bad => rw [q5] at k3; exact k3.elim
        refine s2 _ S3 H' (L2.wipe σ vs) ρ2 x _ ρ3 h3' q3 q4 _ fun σ4 S4 H4 e4 h4 hw => ?_
        rw [wipe_wipe] at hw
        exact ⟨hw.trans rfl, main σ4 S4 H4 e4 h4 hw⟩
    · have e4 : i = ds.length := by omega
      subst e4
      rw [List.drop_length] at k2
      exact .inl ⟨J1.stops H2 (e2.trans h2.sh), k2 _ S2 H2 (Evl.Ex.refl S2) (h2.takeF hF q2)⟩
  | exc e1 ρ1 => rw [q] at k; exact k
  | bad => rw [q] at k; exact k
/-! the readings that a mirror itself gives -/
def tM (K : PySem.W.Frag) (G : Cl) (E : XS) (r : Mode) (μ : List Mode) (m : ME) : TE := fun σ H Q => ∃ F S ρ, EnvOk K G F S H μ σ ρ ∧ EOk K G E r μ F S σ Q (m ρ)
def ttM (K : PySem.W.Frag) (G : Cl) (E : XS) (μ : List Mode) (m : MT) : TT := fun σ H Q => ∃ F S ρ, EnvOk K G F S H μ σ ρ ∧ TOk K G E μ F S σ Q (m ρ)
def gM (K : PySem.W.Frag) (G : Cl) (μ μ' : List Mode) (vs : List Nat) (b : MB) : TG := fun v σ H Q => ∃ F S ρ d ρ', EnvOk K G F S H μ σ ρ ∧ Dat K G S v d ∧ b d ρ = some ρ' ∧ ∀ σ' S' H', Ex S S' → EnvOk K G F S' H' μ' σ' ρ' → L2.wipe σ' vs = L2.wipe σ vs → Q σ' H'
theorem JE.pe {e : Expr} {m : ME} (h : JE X G E r μ e m) : PE X e (tM X.K G E r μ m) := by
  obtain ⟨t, p, s⟩ := h.ex
  exact ⟨fun pins s0 σ H Q I ⟨F, S, ρ, h1, h2⟩ => p.run pins s0 σ H Q I (s F S H σ ρ h1 Q h2)⟩
theorem JTs.pt {es : List Expr} {m : MT} (h : JTs X G E μ es m) : PTs X es (ttM X.K G E μ m) := by
  obtain ⟨t, p, s⟩ := h.ex
  exact ⟨fun pins s0 σ H Q I ⟨F, S, ρ, h1, h2⟩ => p.run pins s0 σ H Q I (s F S H σ ρ h1 Q h2)⟩
theorem JGc.pg {e : Expr} {b : MB} {vs : List Nat} (h : JGc X G μ μ' vs e b) : PG X e (gM X.K G μ μ' vs b) := by
  obtain ⟨g, p, s, w⟩ := h.ex
  refine ⟨fun pins s0 σ H v u Q I rv ⟨F, S, ρ, d, ρ', h1, h2, h3, h4⟩ => p.run pins s0 σ H v u Q I rv ?_⟩
  exact w v σ H _ Q (s F S H σ ρ v d ρ' h1 h2 h3 (fun σ' H' => ∃ S', Ex S S' ∧ EnvOk X.K G F S' H' μ' σ' ρ') fun σ' S' H' e1 e2 => ⟨S', e1, e2⟩) fun σ2 H2 e1 ⟨S', e2, e3⟩ => h4 σ2 S' H2 e2 e3 e1
theorem se_tM {m : ME} : SE K G E r μ (tM K G E r μ m) m := fun F S H σ ρ h Q k => ⟨F, S, ρ, h, k⟩
theorem st_tM {m : MT} : ST K G E μ (ttM K G E μ m) m := fun F S H σ ρ h Q k => ⟨F, S, ρ, h, k⟩
theorem sgw_gM {b : MB} {vs : List Nat} : SGW K G μ μ' vs (gM K G μ μ' vs b) b := fun F S H σ ρ v d ρ' h1 h2 h3 Q k => ⟨F, S, ρ, d, ρ', h1, h2, h3, k⟩
/-- [elt for tg in iter if ..] -/
theorem lc_all {vs : List Nat} {wi : TI} {it : MA} {b : MB} {t : MT} {a : ME} (s1 : SI K G E μ wi it) (hx : allX μ vs = true) (hm : ModesLe μ μ1 = true) :
    SE K G E .o μ (tLc wi (gM K G μ μ1 vs b) (ttM K G (fun _ => E0) μ1 t) (tM K G (fun _ => E0) .d μ1 a) vs) (mLc it b t a μ) := se_lc s1 sgw_gM st_tM se_tM hx hm
theorem je_lcO {vs : List Nat} {elt tg iter : Expr} {ifs : List Expr} {scope : Scope} {own : List (Str × Nat)} {pos : Pos} {it : MA} {b : MB} {t : MT} {a : ME} (hN : X.N.Nodup) (hi : JI X G E μ tg iter it) (ok : blkC X.N X.env.scope scope own = true)
    (hg : ∀ (s : Shared) (H : Hp) (A : Addr) (cl : List (Str × Addr)) (fp : List Addr), JGc (X.blk s H scope (compEnvC scope cl A X.env) fp) G μ μ1 vs tg b)
    (ht : ∀ (s : Shared) (H : Hp) (A : Addr) (cl : List (Str × Addr)) (fp : List Addr), JTs (X.blk s H scope (compEnvC scope cl A X.env) fp) G (fun _ => E0) μ1 ifs t)
    (he : ∀ (s : Shared) (H : Hp) (A : Addr) (cl : List (Str × Addr)) (fp : List Addr), JE (X.blk s H scope (compEnvC scope cl A X.env) fp) G (fun _ => E0) .d μ1 elt a)
    (hv : own.map (·.2) = vs := by rfl) (hx : allX μ vs = true := by rfl) (hm : ModesLe μ μ1 = true := by rfl) (hc : X.calm = true := by rfl) (hs : ∀ x, foldedSetIterable iter X.env x = pure x := by intro _; rfl) :
    JE X G E .o μ (.ListComp elt [⟨tg, iter, ifs, 0⟩] scope pos) (mLc it b t a μ) := by
  obtain ⟨wi, p1, s1⟩ := hi.ex
  refine ⟨_, pe_lc (g := gM X.K G μ μ1 vs b) (tt := ttM X.K G (fun _ => E0) μ1 t) (te := tM X.K G (fun _ => E0) .d μ1 a) hc hN p1 (blkOk_by ok) (fun s H A cl fp => (hg s H A cl fp).pg) (fun s H A cl fp => (ht s H A cl fp).pt) (fun s H A cl fp => (he s H A cl fp).pe) hs, ?_⟩
  rw [hv]
  exact lc_all s1 hx hm
theorem js_asgLcO {i : Nat} {y : Str} {py : Pos} {vs : List Nat} {elt tg iter : Expr} {ifs : List Expr} {scope : Scope} {own : List (Str × Nat)} {pos spos : Pos} {it : MA} {b : MB} {t : MT} {a : ME} (hN : X.N.Nodup) (hi : JI X G C.E μ tg iter it) (ok : blkC X.N X.env.scope scope own = true)
    (hg : ∀ (s : Shared) (H : Hp) (A : Addr) (cl : List (Str × Addr)) (fp : List Addr), JGc (X.blk s H scope (compEnvC scope cl A X.env) fp) G μ μ1 vs tg b)
    (ht : ∀ (s : Shared) (H : Hp) (A : Addr) (cl : List (Str × Addr)) (fp : List Addr), JTs (X.blk s H scope (compEnvC scope cl A X.env) fp) G (fun _ => E0) μ1 ifs t)
    (he : ∀ (s : Shared) (H : Hp) (A : Addr) (cl : List (Str × Addr)) (fp : List Addr), JE (X.blk s H scope (compEnvC scope cl A X.env) fp) G (fun _ => E0) .d μ1 elt a)
    (hsw : swapsWith (.ListComp elt [⟨tg, iter, ifs, 0⟩] scope pos) (some (.Name y py)) spos.line X.env = pure true)
    (hy : X.N[i]? = some y := by rfl) (hyl : X.env.scope.names.lookup y = some .local := by rfl) (hlt : i < μ.length := by decide) (w : ModesLe C.μx μ = true := by rfl)
    (hv : own.map (·.2) = vs := by rfl) (hx : allX μ vs = true := by rfl) (hm : ModesLe μ μ1 = true := by rfl) (hc : X.calm = true := by rfl) (hs : ∀ x, foldedSetIterable iter X.env x = pure x := by intro _; rfl) :
    JS X G C μ (μ.set i .o) (.Assign [.Name y py] (.ListComp elt [⟨tg, iter, ifs, 0⟩] scope pos) spos) (mAsg i (mLc it b t a μ)) := by
  obtain ⟨wi, p1, s1⟩ := hi.ex
  refine ⟨_, ps_setLc (g := gM X.K G μ μ1 vs b) (tt := ttM X.K G (fun _ => E0) μ1 t) (te := tM X.K G (fun _ => E0) .d μ1 a) hc hN hy hyl hsw p1 (blkOk_by ok) (fun s H A cl fp => (hg s H A cl fp).pg) (fun s H A cl fp => (ht s H A cl fp).pt) (fun s H A cl fp => (he s H A cl fp).pe) hs, fun F S H σ ρ h D k => ?_⟩
  rw [hv]
  refine lc_all s1 hx hm F S H σ ρ h _ ?_
  unfold mAsg at k
  cases q : mLc it b t a μ ρ with
  | ok d ρ' => rw [q] at k; exact fun v S' H' e h' => k _ S' H' e (h'.store hlt)
  | exc e ρ' => rw [q] at k; exact xout w k
  | bad => rw [q] at k; exact k
/-- .. frozen -/
theorem js_frzA {st : Stmt} {i : Nat} {m : MS} (h : JS X G C μ (μ.set i .o) st m) (hlt : i < μ.length := by decide) : JS X G C μ (μ.set i .d) st m := by
  obtain ⟨t, p, s⟩ := h.ex
  refine ⟨t, p, fun F S H σ ρ h D k => s F S H σ ρ h D ?_⟩
  cases q : m ρ with
  | nx ρ' =>
    rw [q] at k
    intro σ' S' H' e h'
    obtain ⟨S2, e2, h2⟩ := h'.frz (i := i) (.inl (List.getElem?_set_self hlt))
    rw [List.set_set] at h2
    exact k σ' S2 H' (e.trans e2) h2
  | _ => rw [q] at k; exact k
end
end MR

set_option Elab.async false
set_option linter.all false
set_option maxRecDepth 100000
set_option maxHeartbeats 1000000
/-! MB7: defs with defaults, try and except, isinstance of a caught error. -/
namespace MR
open PySem L2 PySem.Spec PyProof.Rows
section
variable {K : PySem.W.Frag} {G : Cl} {E : XS} {C : SC} {μ μ' μ1 : List Mode} {r : Mode} {X : Cx}
variable {P : Program} {w : World} {mg : Str → Option Value} {base : Heap}
/-! ### defaults -/
theorem fnD_ok {x qual : Str} {params : Arguments} {body : List Stmt} {scope : Scope} {dvs : List V} {f : Addr} {fd : FuncData} {N ps : List Str} {lv n k : Nat} {rm : Mode} {b : MS} {μe : List Mode} (F : FunD K x qual params body scope dvs [] f fd) (sc : FnScope N ps scope) (hn : ps.length = n) (hk : N.length = n + k)
    (hb : ∀ (cdv : Value) (A : Around) (outer : List Env) (s : Shared) (H : Hp) (E : XK), Room lv (A.deeper (envOfC qual scope s.heap.objs.size f cdv)) →
      JSs (cxOf (L2.CX P w) P w K mg base N qual scope f cdv A outer s H E) G (scOf E rm n k) (List.replicate n .d ++ List.replicate k .x) μe body b) :
    FnOk P w K mg base (L2.CX P w) (lv + 1) f fd ps (spP K G n rm (mDef rm k b)) := by
  refine F.ok sc (fun vs H Q E h => by rw [spP_len h, hn]) fun cdv A outer s H vs Q E hr h => ?_
  obtain ⟨t, p1, s1⟩ := (hb cdv A outer s H E hr).ex
  obtain ⟨F0, S, ds, sh, fk, q, l, z⟩ := h
  have hv : vs.length = n := by rw [q.length, l]
  refine ⟨t, p1, ?_⟩
  have e0 : L2.start N vs = vs.map some ++ List.replicate k none := by
    unfold L2.start
    rw [show N.length - vs.length = k by omega]
  rw [e0]
  have en := EnvOk.args (G := G) sh fk q k
  rw [l] at en
  refine s1 F0 S H _ _ en _ ?_
  unfold mDef at z
  cases q2 : b (ds ++ List.replicate k .non) with
  | nx ρ' =>
    rw [q2] at z
    cases rm with
    | d => exact fun σ' S' H' e' h' => z _ S' H' e' (nonOk h' rfl)
    | _ => exact z.elim
  | ret d ρ' =>
    rw [q2] at z
    exact fun v μ1 σ' S' H' _ e' h' => z v S' H' e' h'.alone
  | exc e ρ' =>
    rw [q2] at z
    exact fun μ1 σ' c dct S' H' _ e' h' x => z c dct S' H' e' h'.nothing x
  | brk ρ' => rw [q2] at z; exact z.elim
  | cnt ρ' => rw [q2] at z; exact z.elim
  | bad => rw [q2] at z; exact z.elim
/-! ### try -/
theorem modeLe_trans {a b c : Mode} (h1 : ModeLe a b = true) (h2 : ModeLe b c = true) : ModeLe a c = true := by
  cases a <;> cases b <;> cases c <;> simp_all [ModeLe]
theorem modesLe_trans : ∀ {a b c : List Mode}, ModesLe a b = true → ModesLe b c = true → ModesLe a c = true
  | [], [], [], _, _ => rfl
  | a :: as, b :: bs, c :: cs, h1, h2 => by
    simp only [ModesLe, Bool.and_eq_true] at h1 h2 ⊢
    exact ⟨modeLe_trans h1.1 h2.1, modesLe_trans h1.2 h2.2⟩
/-- the classes: 0 to 7 the errors' own, 8 PriceError, 9 ValueError -/
def errIs (e : Err) (n : Nat) : Bool := n == 8 || n == 9 || e.tag == n
/-- a class that an except clause names, against the errors that may come (tags) -/
structure CatchO (K : PySem.W.Frag) (mg : Str → Option Value) (G : Cl) (x : Str) (n : Nat) (tags : List Nat) : Prop where
  ex : ∃ C, mg x = some (.ref C) ∧ ∀ e : Err, e.tag ∈ tags → PySem.W.exmOne K (.ref (G.eA e.tag)) (.ref C) = some (errIs e n)
structure IsO (K : PySem.W.Frag) (mg : Str → Option Value) (G : Cl) (x : Str) (n : Nat) (tags : List Nat) : Prop where
  ex : ∃ C, mg x = some (.ref C) ∧ ∀ e : Err, e.tag ∈ tags → PySem.W.kitOne K (.ref (G.eA e.tag)) (.ref C) = some (errIs e n)
structure IsB (K : PySem.W.Frag) (G : Cl) (T : String) (n : Nat) (tags : List Nat) : Prop where
  ex : ∀ e : Err, e.tag ∈ tags → PySem.W.kitOne K (.ref (G.eA e.tag)) (.type T) = some (errIs e n)
def mTry (tags : List Nat) (n : Nat) (μh : List Mode) (b : MS) (h : Err → MS) : MS := fun ρ => match b ρ with
  | .exc e ρ1 => if tags.contains e.tag = true then (if errIs e n = true then h e (keep μh ρ1) else .exc e ρ1) else .bad
  | o => o
/-- an error's name as it stands in a slot -/
theorem EnvOk.sete {F S H : Hp} {σ : L2.St} {ρ : List D} {i : Nat} {a : Addr} (h : EnvOk K G F S H μ σ ρ) (hx : μ[i]? = some .x) : EnvOk K G F S H (μ.set i (.e a)) (σ.set i (some (.ref a))) ρ := by
  obtain ⟨sh, fk, ls, lr, fp, f, f4, sl⟩ := h
  have hi : i < μ.length := (List.getElem?_eq_some_iff.mp hx).1
  refine ⟨sh, fk, by simpa using ls, by simpa using lr, fp, f, fun j hj => f4 j (by simpa using hj), fun j m e => ?_⟩
  by_cases z : j = i
  · subst z
    rw [List.getElem?_set_self hi] at e
    cases e
    rw [List.getElem?_set_self (by omega)]
    exact ⟨sl j .x hx, rfl⟩
  · rw [List.getElem?_set_ne (Ne.symm z)] at e ⊢
    exact sl j m e
theorem EnvOk.gone {F S H : Hp} {σ : L2.St} {ρ : List D} {i : Nat} (h : EnvOk K G F S H μ σ ρ) (hx : μ.getD i .x = .x) : EnvOk K G F S H μ (σ.set i none) ρ := by
  refine h.swapσ (by simp) fun j m e n => ?_
  have : j ≠ i := fun z => by
    subst z
    rw [List.getD_eq_getElem?_getD, e] at hx
    exact n hx
  rw [List.getElem?_set_ne (Ne.symm this)]
/-- the body of a try: its context, its wishes -/
abbrev SC.try (C : SC) (W : WX) (μh : List Mode) : SC := { C with E := fun σ c d H => W c d σ H, μx := μh }
theorem js_tryAs {x n : Str} {i cn : Nat} {tags : List Nat} {body suite : List Stmt} {b₀ : Stmt} {np pos pos' : Pos} {mb : MS} {mh : Err → MS} (μh : List Mode) (hN : X.N.Nodup) (hc : CatchO X.K X.mg G x cn tags) (tk : Takes X (fun c d σ H => C.E σ c d H))
    (hb : ∀ (W : WX) (pn : List (Addr × Obj)) (xe : Value → Shared → Prop), Takes (X.tr pn xe) W → PassesOwn (model X.prog X.w) X.A X.env xe → JSs (X.tr pn xe) G (C.try W μh) μ μ' body mb)
    (hsu : ∀ (e : Err) (a : Addr) (oe : Obj) (d : Option Addr) (pn : List (Addr × Obj)), e.tag ∈ tags → Zc (.ref (G.eA e.tag)) d oe → ((∀ m, e ≠ .line m) → d = none) → (∃ vs, oe.data = .fields vs) → JSs (X.suite a ((a, oe) :: pn)) G C (μh.set i (.e a)) μ' (b₀ :: suite) (mh e))
    (hx : μh[i]? = some .x := by rfl) (wx : ModesLe C.μx μh = true := by rfl) (h' : μ'.getD i .x = .x := by rfl) (hbk : C.μb.getD i .x = .x := by rfl) (hct : C.μc.getD i .x = .x := by rfl)
    (hs : X.stack = X.env :: X.outer := by rfl) (hf : X.env.frame = some X.env.locals := by rfl) (hi : X.N[i]? = some n := by rfl) (hln : X.env.kindOf n = some .local := by rfl) (hg : Gl X x := by rfl) (hdb : (x == ("__debug__" : Str)) = false := by decide) :
    JS X G C μ μ' (.Try body [.ExceptHandler (some (.Name x np)) (some n) (b₀ :: suite) pos'] [] [] pos) (mTry tags cn μh mb mh) := by
  obtain ⟨A, hm, hex⟩ := hc.ex
  refine ⟨_, ps_try_as (c := .ref A) (tb := fun W D σ H => ∀ pn xe, Takes (X.tr pn xe) W → PassesOwn (model X.prog X.w) X.A X.env xe → ∃ t, PSs (X.tr pn xe) body t ∧ t D σ H)
    (ts := fun a cls d D σ H => ∀ oe pn, Zc cls d oe → (∃ vs, oe.data = .fields vs) → ∃ t, PSs (X.suite a ((a, oe) :: pn)) (b₀ :: suite) t ∧ t D σ H) hs hf hN hi hln ⟨hg, hdb, .inl hm⟩ tk
    (fun W pn xe tk po => ⟨fun pins s σ H D I h => let ⟨t, p, q⟩ := h pn xe tk po; p.run pins s σ H D I q⟩)
    (fun a oe cls d pn hz hd => ⟨fun pins s σ H D I h => let ⟨t, p, q⟩ := h oe pn hz hd; p.run pins s σ H D I q⟩), fun F S H σ ρ h D k pn xe tk2 po => ?_⟩
  obtain ⟨t, p, q⟩ := (hb _ pn xe tk2 po).ex
  refine ⟨t, p, q F S H σ ρ h D ?_⟩
  unfold mTry at k
  cases q1 : mb ρ with
  | nx ρ1 => rw [q1] at k; exact k
  | brk ρ1 => rw [q1] at k; exact k
  | cnt ρ1 => rw [q1] at k; exact k
  | ret d ρ1 => rw [q1] at k; exact fun v μ1 σ' S' H' l e h' => k v μ1 σ' S' H' (modesLe_trans wx l) e h'
  | bad => rw [q1] at k; exact k
  | exc e ρ1 =>
    rw [q1] at k
    intro μ1 σ' c dct S' H' l ex h1 er
    simp only at k
    split at k
    · rename_i ht
      have ht' : e.tag ∈ tags := by simpa using ht
      obtain ⟨rfl, hd⟩ := er
      refine ⟨errIs e cn, hex e ht', fun eq a na oe pn hz hdd => ?_, fun eq => ?_⟩
      · rw [if_pos eq] at k
        obtain ⟨t2, p2, s2⟩ := (hsu e a oe dct pn ht' hz (fun nl => by cases e <;> first | exact hd | exact absurd rfl (nl _)) hdd).ex
        refine ⟨t2, p2, s2 F S' H' _ _ ((h1.weak l).sete hx) _ ?_⟩
        have k2 := OutOk.mono ex k
        cases q2 : mh e (keep μh ρ1) with
        | nx ρ2 => rw [q2] at k2; exact fun σ2 S2 H2 e2 h2 => k2 _ S2 H2 e2 (h2.gone h')
        | brk ρ2 => rw [q2] at k2; exact fun σ2 S2 H2 e2 h2 => k2 _ S2 H2 e2 (h2.gone hbk)
        | cnt ρ2 => rw [q2] at k2; exact fun σ2 S2 H2 e2 h2 => k2 _ S2 H2 e2 (h2.gone hct)
        | ret d ρ2 => rw [q2] at k2; exact k2
        | exc d ρ2 => rw [q2] at k2; exact k2
        | bad => rw [q2] at k2; exact k2
      · rw [if_neg (by simp [eq])] at k
        exact k μ1 σ' _ dct S' H' (modesLe_trans wx l) ex h1 ⟨rfl, hd⟩
    · exact k.elim
theorem js_tryOnly {x : Str} {cn : Nat} {tags : List Nat} {body suite : List Stmt} {b₀ : Stmt} {np pos pos' : Pos} {mb : MS} {mh : MS} (μh : List Mode) (hc : CatchO X.K X.mg G x cn tags) (tk : Takes X (fun c d σ H => C.E σ c d H))
    (hb : ∀ (W : WX) (pn : List (Addr × Obj)) (xe : Value → Shared → Prop), Takes (X.tr pn xe) W → PassesOwn (model X.prog X.w) X.A X.env xe → JSs (X.tr pn xe) G (C.try W μh) μ μ' body mb)
    (hsu : ∀ (a : Addr) (oe : Obj) (pn : List (Addr × Obj)), JSs (X.suite a ((a, oe) :: pn)) G C μh μ' (b₀ :: suite) mh)
    (wx : ModesLe C.μx μh = true := by rfl)
    (hs : X.stack = X.env :: X.outer := by rfl) (hf : X.env.frame = some X.env.locals := by rfl) (hg : Gl X x := by rfl) (hdb : (x == ("__debug__" : Str)) = false := by decide) :
    JS X G C μ μ' (.Try body [.ExceptHandler (some (.Name x np)) none (b₀ :: suite) pos'] [] [] pos) (mTry tags cn μh mb fun _ => mh) := by
  obtain ⟨A, hm, hex⟩ := hc.ex
  refine ⟨_, ps_try_only (c := .ref A) (tb := fun W D σ H => ∀ pn xe, Takes (X.tr pn xe) W → PassesOwn (model X.prog X.w) X.A X.env xe → ∃ t, PSs (X.tr pn xe) body t ∧ t D σ H)
    (ts := fun a cls d D σ H => ∀ oe pn, ∃ t, PSs (X.suite a ((a, oe) :: pn)) (b₀ :: suite) t ∧ t D σ H) hs hf ⟨hg, hdb, .inl hm⟩ tk
    (fun W pn xe tk po => ⟨fun pins s σ H D I h => let ⟨t, p, q⟩ := h pn xe tk po; p.run pins s σ H D I q⟩)
    (fun a oe cls d pn hz hd => ⟨fun pins s σ H D I h => let ⟨t, p, q⟩ := h oe pn; p.run pins s σ H D I q⟩), fun F S H σ ρ h D k pn xe tk2 po => ?_⟩
  obtain ⟨t, p, q⟩ := (hb _ pn xe tk2 po).ex
  refine ⟨t, p, q F S H σ ρ h D ?_⟩
  unfold mTry at k
  cases q1 : mb ρ with
  | nx ρ1 => rw [q1] at k; exact k
  | brk ρ1 => rw [q1] at k; exact k
  | cnt ρ1 => rw [q1] at k; exact k
  | ret d ρ1 => rw [q1] at k; exact fun v μ1 σ' S' H' l e h' => k v μ1 σ' S' H' (modesLe_trans wx l) e h'
  | bad => rw [q1] at k; exact k
  | exc e ρ1 =>
    rw [q1] at k
    intro μ1 σ' c dct S' H' l ex h1 er
    simp only at k
    split at k
    · rename_i ht
      have ht' : e.tag ∈ tags := by simpa using ht
      obtain ⟨rfl, hd⟩ := er
      refine ⟨errIs e cn, hex e ht', fun eq a na oe pn => ?_, fun eq => ?_⟩
      · rw [if_pos eq] at k
        obtain ⟨t2, p2, s2⟩ := (hsu a oe pn).ex
        exact ⟨t2, p2, s2 F S' H' _ _ (h1.weak l) _ (OutOk.mono ex k)⟩
      · rw [if_neg (by simp [eq])] at k
        exact k μ1 σ' _ dct S' H' (modesLe_trans wx l) ex h1 ⟨rfl, hd⟩
    · exact k.elim
/-! ### isinstance of a caught error -/
structure ExcCs (K : PySem.W.Frag) (G : Cl) (tags : List Nat) : Prop where
  ex : ∀ t ∈ tags, ExcC K (G.eA t)
theorem je_isE {y n x : Str} {i cn : Nat} {a : Addr} {oe : Obj} {pn : List (Addr × Obj)} {e : Err} {tags : List Nat} {p p1 p2 pos : Pos} (hI : IsO X.K X.mg G x cn tags) (hC : ExcCs X.K G tags) (ht : e.tag ∈ tags) (hz : Zc (.ref (G.eA e.tag)) none oe) (hf : ∃ vs, oe.data = .fields vs) (hy : X.mg y = none)
    (hm : μ[i]? = some (.e a)) (hN : X.N[i]? = some n := by rfl) (hx : Vis X.env.scope n := by first | exact Or.inl rfl | exact Or.inr (Or.inl rfl) | exact Or.inr (Or.inr rfl)) (hd : (n == ("__debug__" : Str)) = false := by decide) (hcd : (n == ("__classdict__" : Str)) = false := by decide)
    (hgy : Gl X y := by rfl) (hg : Gl X x := by rfl) (hvy : bootBuiltins y = some (.builtin "isinstance") := by decide +kernel) (hny : y ≠ "__name__" := by decide) (hdy : (y == ("__debug__" : Str)) = false := by decide) (hdb : (x == ("__debug__" : Str)) = false := by decide)
    (h1 : starEach [.Name n p1, .Name x p2] X.env = (false, eval (.Name n p1) X.env) :: starEach [.Name x p2] X.env := by rfl) (h2 : starEach [.Name x p2] X.env = (false, eval (.Name x p2) X.env) :: starEach [] X.env := by rfl) (hpl : (backTo pos (starEach [.Name x p2] X.env)).any (·.1) = false := by rfl) :
    JE (X.suite a ((a, oe) :: pn)) G E .d μ (.Call (.Name y p) [.Name n p1, .Name x p2] [] pos) (mC (.bl (errIs e cn))) := by
  obtain ⟨A, hmg, hk⟩ := hI.ex
  refine ⟨_, pe_callB (X := X.suite a ((a, oe) :: pn)) (call_isE (hC.ex _ ht) hz hf) hgy hy hvy (pa_cons (pe_var hN hx hd hcd) (pa_cons (pe_glob (v := .ref A) hg hmg rfl hdb) pa_nil h2) h1) hny hdy h1 hpl, fun F S H σ ρ h Q k => ?_⟩
  exact ⟨_, h.evar hm, _, _, _, rfl, fun u z => z, hk e ht, k _ S H (Evl.Ex.refl S) (h.push (.bl _))⟩
theorem je_isEB {y n x : Str} {T : String} {i cn : Nat} {a : Addr} {oe : Obj} {pn : List (Addr × Obj)} {e : Err} {tags : List Nat} {p p1 p2 pos : Pos} (hI : IsB X.K G T cn tags) (hC : ExcCs X.K G tags) (ht : e.tag ∈ tags) (hz : Zc (.ref (G.eA e.tag)) none oe) (hf : ∃ vs, oe.data = .fields vs) (hy : X.mg y = none) (hx0 : X.mg x = none)
    (hm : μ[i]? = some (.e a)) (hN : X.N[i]? = some n := by rfl) (hx : Vis X.env.scope n := by first | exact Or.inl rfl | exact Or.inr (Or.inl rfl) | exact Or.inr (Or.inr rfl)) (hd : (n == ("__debug__" : Str)) = false := by decide) (hcd : (n == ("__classdict__" : Str)) = false := by decide)
    (hgy : Gl X y := by rfl) (hg : Gl X x := by rfl) (hvy : bootBuiltins y = some (.builtin "isinstance") := by decide +kernel) (hv : bootBuiltins x = some (.type T) := by decide +kernel) (hny : y ≠ "__name__" := by decide) (hn : x ≠ "__name__" := by decide) (hdy : (y == ("__debug__" : Str)) = false := by decide) (hdb : (x == ("__debug__" : Str)) = false := by decide)
    (h1 : starEach [.Name n p1, .Name x p2] X.env = (false, eval (.Name n p1) X.env) :: starEach [.Name x p2] X.env := by rfl) (h2 : starEach [.Name x p2] X.env = (false, eval (.Name x p2) X.env) :: starEach [] X.env := by rfl) (hpl : (backTo pos (starEach [.Name x p2] X.env)).any (·.1) = false := by rfl) :
    JE (X.suite a ((a, oe) :: pn)) G E .d μ (.Call (.Name y p) [.Name n p1, .Name x p2] [] pos) (mC (.bl (errIs e cn))) := by
  refine ⟨_, pe_callB (X := X.suite a ((a, oe) :: pn)) (call_isE (hC.ex _ ht) hz hf) hgy hy hvy (pa_cons (pe_var hN hx hd hcd) (pa_cons (pe_bltn (v := .ty T) hg hx0 hv rfl hn hdb) pa_nil h2) h1) hny hdy h1 hpl, fun F S H σ ρ h Q k => ?_⟩
  exact ⟨_, h.evar hm, _, _, _, rfl, fun u z => z, hI.ex e ht, k _ S H (Evl.Ex.refl S) (h.push (.bl _))⟩
theorem zc0 {e : Err} {d : Option Addr} {oe : Obj} {c : Value} {tags : List Nat} (ht : e.tag ∈ tags) (h7 : tags.contains 7 = false) (hz : Zc c d oe) (hn : (∀ m, e ≠ .line m) → d = none) : Zc c none oe := by
  have : d = none := hn fun m z => by
    subst z
    have h2 : (7 : Nat) ∈ tags := ht
    simp at h7
    exact h7 h2
  subst this
  exact hz
/-! ### a def with one default, called with both values or with one -/
theorem defD_mk0 {x qual : Str} {params : Arguments} {body : List Stmt} {scope : Scope} {dvs : List V} {f : Addr} {fd : FuncData} {ps : List Str} {lv n : Nat} {rm : Mode} {m : MP} (o : FnOk P w K mg base (L2.CX P w) lv f fd ps (spP K G n rm m)) (hm : mg x = some (.ref f)) (hk : PySem.W.keepIn K (.ref f) = true) (F : FunD K x qual params body scope dvs [] f fd) (hd : dvs ≠ []) (hn : ps.length + (dvs.length - dvs.length) = ps.length)
    (h : ∀ (T : Addr) (kV doc pm : Value) (an : Option Addr) (cdv ct : Value) (us its : List Value), us.length = ps.length → its.length = dvs.length →
      ∃ k, bindArgs (PySem.W.fnOf x qual params body scope (.ref T) kV doc pm an cdv ct) ⟨us, []⟩ = seqItems? (.ref T) >>= k ∧ k (some its.toArray) = pure (ps.zip (us ++ its.drop dvs.length))) : DefO P w K mg base G x n rm m lv [] := by
  obtain ⟨ds, q1, q2⟩ := F.binds1 ps.length dvs.length hd hn h
  rw [List.drop_length] at q1
  cases q1
  exact ⟨_, _, _, _, [], o, hm, hk, q2, .nil, fun _ => .nil⟩
theorem defD_mk1 {x qual : Str} {params : Arguments} {body : List Stmt} {scope : Scope} {dvs : List V} {f : Addr} {fd : FuncData} {ps : List Str} {lv n : Nat} {rm : Mode} {m : MP} {dd : List D} (o : FnOk P w K mg base (L2.CX P w) lv f fd ps (spP K G n rm m)) (hm : mg x = some (.ref f)) (hk : PySem.W.keepIn K (.ref f) = true) (F : FunD K x qual params body scope dvs [] f fd) (j : Nat) (hj : j + (dvs.length - 0) = ps.length) (hd : dvs ≠ [])
    (h : ∀ (T : Addr) (kV doc pm : Value) (an : Option Addr) (cdv ct : Value) (us its : List Value), us.length = j → its.length = dvs.length →
      ∃ k, bindArgs (PySem.W.fnOf x qual params body scope (.ref T) kV doc pm an cdv ct) ⟨us, []⟩ = seqItems? (.ref T) >>= k ∧ k (some its.toArray) = pure (ps.zip (us ++ its.drop 0)))
    (hq : ∀ S, DatL K G S dvs dd) : DefO P w K mg base G x n rm m lv dd := by
  obtain ⟨ds, q1, q2⟩ := F.binds1 j 0 hd hj h
  exact ⟨_, _, _, _, dvs, o, hm, hk, q2, q1, hq⟩
theorem kit_ref {A : Addr} {t : Value} {b : Bool} (hdct : PySem.W.hasDictIn K A = true) (ht : PySem.W.typeIn K (.ref A) = some (.type "type")) (h5 : PySem.W.subIn K (.ref A) (.ref A) = some true) (h4 : PySem.W.subIn K t (.ref A) = some b) : PySem.W.kitOne K t (.ref A) = some b := by
  obtain ⟨cd, hc, _⟩ := PySem.W.any_some hdct
  unfold PySem.W.kitOne
  split
  · rename_i h
    have e : t = .ref A := beq_iff_eq.mp h
    subst e
    rw [← h4, h5]
  · show (if ((PySem.W.clsIn K A).isSome && PySem.W.typeIn K (.ref A) == some (.type "type")) = true then PySem.W.subIn K t (.ref A) else none) = some b
    rw [hc, ht]
    exact h4
theorem kit_type {A : Addr} {T : String} {b : Bool} (hm : PySem.W.kitMeta T = true) (h : PySem.W.subIn K (.ref A) (.type T) = some b) : PySem.W.kitOne K (.ref A) (.type T) = some b := by
  unfold PySem.W.kitOne
  rw [if_neg (fun z => by have := beq_iff_eq.mp z; cases this)]
  show (if PySem.W.kitMeta T = true then PySem.W.subIn K (.ref A) (.type T) else none) = some b
  rw [if_pos hm]
  exact h
end
end MR

set_option Elab.async false
set_option linter.all false
set_option maxRecDepth 100000
set_option maxHeartbeats 1000000
/-! MB8: an empty dict, zip, enumerate, walks over texts. -/
namespace MR
open PySem L2 PySem.Spec PyProof.Rows
section
variable {K : PySem.W.Frag} {G : Cl} {E : XS} {C : SC} {μ μ' μ1 : List Mode} {r : Mode} {X : Cx} {F S H : Hp} {σ : L2.St} {ρ : List D}
/-- relabel asks its environment for the scope alone -/
def relabelS (scope sc : Scope) : Scope := { scope with names := scope.names.map fun (n, k) => if (k == .free && sc.kind == .function && sc.names.lookup n == some .cell) then (n, .cell) else (n, k) }
theorem relabel_eq {scope : Scope} {env : Env} : relabel scope env = relabelS scope env.scope := rfl
theorem je_dict0 {pos : Pos} : JE X G E .d μ (.Dict [] [] pos) (mC (.dK [])) := by
  refine ⟨_, pe_dnewK, fun F S H σ ρ h Q k p hp => ?_⟩
  have hS : S p = none := ex_none h.sh hp
  have e1 : Ex S (upd S p (.dK [])) := Evl.Ex.new hS
  refine k (.ref p) (upd S p (.dK [])) _ e1 ((h.grow e1 (fun a o ha => ?_) (Evl.Ex.new hp) fun a o ha hs => ?_).push (Dat.dK (ks := []) (vs := []) (ds := []) upd_same rfl .nil))
  · by_cases z : a = p
    · subst z
      rw [upd_same] at ha ⊢
      exact ha
    · rw [upd_ne z] at ha ⊢
      exact h.sh _ _ ha
  · rw [upd_ne (ne_of_none ha hp)]
    exact hs
theorem dat_items {v : V} {d : D} {ds : List D} (h : Dat K G S v d) (e : itemsOf d = some ds) : ∃ a vs, v = .ref a ∧ SqL K S a vs ∧ DatL K G S vs ds := by
  cases h with
  | lst a1 a2 => cases e; exact ⟨_, _, rfl, .inl (.inl a1), a2⟩
  | scr a1 => cases e; exact ⟨_, _, rfl, a1, datL_ints _⟩
  | _ => cases e
def zip2 : List D → Option (List D)
  | [x, y] => match itemsOf x, itemsOf y with
    | some a, some b => some (List.zipWith (fun u v => .tup [u, v]) a b)
    | _, _ => none
  | _ => none
theorem it_zip {a b : Addr} {xs ys : List V} {ds es : List D} (h1 : SqL K S a xs) (h2 : SqL K S b ys) (q1 : DatL K G S xs ds) (q2 : DatL K G S ys es) : ItOk K G S (Itz K a b) (List.zipWith (fun u v => .tup [u, v]) ds es) := by
  have w := walk_zip (K := K) (a := a) (b := b) (xs := xs) (ys := ys) rfl
  have l : (List.zipWith (fun u v => D.tup [u, v]) ds es).length = min xs.length ys.length := by rw [List.length_zipWith, q1.length, q2.length]
  refine ⟨fun i H hi e => w.goes i H (by rw [← l]; exact hi) ⟨Evl.ex_l e h1, Evl.ex_l e h2⟩, fun H e => by rw [l]; exact w.stops H ⟨Evl.ex_l e h1, Evl.ex_l e h2⟩, fun i H x H' d hd e y => .inr ?_⟩
  have hi : i < min xs.length ys.length := by rw [← l]; exact (List.getElem?_eq_some_iff.mp hd).1
  obtain ⟨T, x1, y1, z1, z2, z3, z4, z5⟩ := w.yields i H x H' hi ⟨Evl.ex_l e h1, Evl.ex_l e h2⟩ y
  obtain ⟨d1, e1, r1⟩ := q1.getV z4
  obtain ⟨d2, e2, r2⟩ := q2.getV z5
  rw [List.getElem?_zipWith, e1, e2] at hd
  cases hd
  exact ⟨T, [x1, y1], [d1, d2], z1, z2, z3, rfl, .cons r1 (.cons r2 .nil)⟩
theorem ji_zip2 {e e2 : Expr} {a : MA} {p pos tpos : Pos} {elts : List Expr} {kk : Nat} (hm : X.mg "zip" = none) (he : JA X G E μ [e, e2] a) (hg : Gl X "zip" := by rfl) (hs : starEach [e, e2] X.env = (false, eval e X.env) :: starEach [e2] X.env := by rfl) (hpl : (backTo pos (starEach [e2] X.env)).any (·.1) = false := by rfl) :
    JI X G E μ (.Tuple elts kk tpos) (.Call (.Name "zip" p) [e, e2] [] pos) (mRng zip2 a) := by
  obtain ⟨t1, p1, s1⟩ := he.ex
  refine ⟨_, pi_zip hg hm p1 hs hpl, fun F S H σ ρ h R k => s1 F S H σ ρ h _ ?_⟩
  unfold mRng at k
  cases q : a ρ with
  | ok ds ρ1 =>
    rw [q, bind_ok] at k
    intro vs S1 H1 e1 h1 q1
    match ds, q1, k with
    | [x, y], .cons q2 (.cons q3 .nil), k =>
      cases z1 : itemsOf x with
      | none =>
        have k' : IOk X.K G E μ F S σ R (RR.of (match itemsOf x, itemsOf y with | some a, some b => some (List.zipWith (fun u v => .tup [u, v]) a b) | _, _ => none) ρ1) := k
        rw [z1] at k'
        exact k'.elim
      | some as =>
        cases z2 : itemsOf y with
        | none =>
          have k' : IOk X.K G E μ F S σ R (RR.of (match itemsOf x, itemsOf y with | some a, some b => some (List.zipWith (fun u v => .tup [u, v]) a b) | _, _ => none) ρ1) := k
          rw [z1, z2] at k'
          exact k'.elim
        | some bs =>
          have k' : IOk X.K G E μ F S σ R (RR.of (match itemsOf x, itemsOf y with | some a, some b => some (List.zipWith (fun u v => .tup [u, v]) a b) | _, _ => none) ρ1) := k
          rw [z1, z2] at k'
          obtain ⟨a1, v1, rfl, g1, g2⟩ := dat_items q2 z1
          obtain ⟨a2, v2, rfl, g3, g4⟩ := dat_items q3 z2
          exact ⟨a1, a2, _, _, rfl, Evl.ex_l h1.sh g1, Evl.ex_l h1.sh g3, k' _ S1 H1 e1 h1 (it_zip g1 g3 g2 g4)⟩
  | exc e1 ρ1 => rw [q] at k; exact k
  | bad => rw [q] at k; exact k
def enum1 : List D → Option (List D)
  | [x] => (itemsOf x).map fun a => a.mapIdx fun i d => .tup [.int (i : Nat), d]
  | _ => none
theorem it_enum {a : Addr} {xs : List V} {ds : List D} (h1 : SqL K S a xs) (q1 : DatL K G S xs ds) : ItOk K G S (Ite K a) (ds.mapIdx fun i d => .tup [.int (i : Nat), d]) := by
  have w := walk_enum (K := K) (a := a) (xs := xs)
  have l : (ds.mapIdx fun i d => D.tup [.int (i : Nat), d]).length = xs.length := by rw [List.length_mapIdx, q1.length]
  refine ⟨fun i H hi e => w.goes i H (by rw [← l]; exact hi) (Evl.ex_l e h1), fun H e => by rw [l]; exact w.stops H (Evl.ex_l e h1), fun i H x H' d hd e y => .inr ?_⟩
  have hi : i < xs.length := by rw [← l]; exact (List.getElem?_eq_some_iff.mp hd).1
  obtain ⟨T, x1, y1, z1, z2, z3, z4, z5⟩ := w.yields i H x H' hi (Evl.ex_l e h1) y
  cases z4
  obtain ⟨d2, e2, r2⟩ := q1.getV z5
  rw [List.getElem?_mapIdx, e2] at hd
  cases hd
  exact ⟨T, _, [.int (i : Nat), d2], z1, z2, z3, rfl, .cons (.int _) (.cons r2 .nil)⟩
theorem ji_enum {e : Expr} {a : MA} {p pos tpos : Pos} {elts : List Expr} {kk : Nat} (hm : X.mg "enumerate" = none) (he : JA X G E μ [e] a) (hg : Gl X "enumerate" := by rfl) (hs : starEach [e] X.env = [(false, eval e X.env)] := by rfl) :
    JI X G E μ (.Tuple elts kk tpos) (.Call (.Name "enumerate" p) [e] [] pos) (mRng enum1 a) := by
  obtain ⟨t1, p1, s1⟩ := he.ex
  refine ⟨_, pi_enum hg hm p1 hs, fun F S H σ ρ h R k => s1 F S H σ ρ h _ ?_⟩
  unfold mRng at k
  cases q : a ρ with
  | ok ds ρ1 =>
    rw [q, bind_ok] at k
    intro vs S1 H1 e1 h1 q1
    match ds, q1, k with
    | [x], .cons q2 .nil, k =>
      have k' : IOk X.K G E μ F S σ R (RR.of ((itemsOf x).map fun a => a.mapIdx fun i d => .tup [.int (i : Nat), d]) ρ1) := k
      cases z1 : itemsOf x with
      | none => rw [z1] at k'; exact k'.elim
      | some as =>
        rw [z1] at k'
        obtain ⟨a1, v1, rfl, g1, g2⟩ := dat_items q2 z1
        exact ⟨a1, _, rfl, Evl.ex_l h1.sh g1, k' _ S1 H1 e1 h1 (it_enum g1 g2)⟩
  | exc e1 ρ1 => rw [q] at k; exact k
  | bad => rw [q] at k; exact k
end
end MR

set_option Elab.async false
set_option linter.all false
set_option maxRecDepth 100000
set_option maxHeartbeats 1000000
/-! MB9: slices, stores into owned lists, is True. -/
namespace MR
open PySem L2 PySem.Spec PyProof.Rows
/-- a list's length, as a measure -/
def D.size : D → Nat
  | .lst ds => ds.length
  | _ => 0
section
variable {K : PySem.W.Frag} {G : Cl} {E : XS} {C : SC} {μ μ' μ1 : List Mode} {r : Mode} {X : Cx} {F S H : Hp} {σ : L2.St} {ρ : List D}
/-! ### slices -/
abbrev MO := List D → RR (Option Int)
def OOk (K : PySem.W.Frag) (G : Cl) (E : XS) (μ : List Mode) (F S : Hp) (σ : L2.St) (Q : Option Int → Hp → Prop) : RR (Option Int) → Prop
  | .ok o ρ' => ∀ S' H', Ex S S' → EnvOk K G F S' H' μ σ ρ' → Q o H'
  | .exc e ρ' => XOk K G E μ F S σ e ρ'
  | .bad => False
theorem OOk.mono {S' : Hp} {Q : Option Int → Hp → Prop} (x : Ex S S') : ∀ {o : RR (Option Int)}, OOk K G E μ F S σ Q o → OOk K G E μ F S' σ Q o
  | .ok _ _, k => fun S2 H2 e2 h2 => k S2 H2 (x.trans e2) h2
  | .exc _ _, k => XOk.mono x k
  | .bad, k => k
structure JO (X : Cx) (G : Cl) (E : XS) (μ : List Mode) (e : Option Expr) (m : MO) : Prop where
  ex : ∃ t, PO X e t ∧ ∀ F S H σ ρ, EnvOk X.K G F S H μ σ ρ → ∀ Q, OOk X.K G E μ F S σ Q (m ρ) → t σ H Q
def mNoPart : MO := fun ρ => .ok none ρ
def asInt : D → Option (Option Int)
  | .int i => some (some i)
  | _ => none
def mPart (a : ME) : MO := fun ρ => (a ρ).bind fun d ρ1 => RR.of (asInt d) ρ1
theorem jo_none : JO X G E μ none mNoPart := ⟨_, po_none, fun F S H σ ρ h Q k => k S H (Evl.Ex.refl S) h⟩
theorem jo_some {e : Expr} {a : ME} (he : JE X G E .d μ e a) : JO X G E μ (some e) (mPart a) := by
  obtain ⟨t1, p1, s1⟩ := he.ex
  refine ⟨_, po_some p1, fun F S H σ ρ h Q k => s1 F S H σ ρ h _ ?_⟩
  unfold mPart at k
  cases q : a ρ with
  | ok d ρ1 =>
    rw [q, bind_ok] at k
    intro v S1 H1 e1 h1
    have hd := h1.head
    cases hd with
    | int i => exact ⟨i, rfl, k S1 H1 e1 h1.tail⟩
    | _ => exact k.elim
  | exc e ρ1 => rw [q] at k; exact k
  | bad => rw [q] at k; exact k
def cutD {α : Type} (xs : List α) (lo hi : Option Int) : List α := (xs.drop (HT.sIx xs.length 0 lo)).take (HT.sIx xs.length xs.length hi - HT.sIx xs.length 0 lo)
theorem cut_datL {vs : List V} {ds : List D} (h : DatL K G S vs ds) (lo hi : Option Int) : DatL K G S (cutV vs lo hi) (cutD ds lo hi) := by
  unfold cutV cutD
  rw [h.length]
  exact (h.drop _).take _
def fSl (lo hi : Option Int) : D → Option D
  | .lst ds => some (.lst (cutD ds lo hi))
  | .scr ns => some (.lst ((cutD ns lo hi).map .int))
  | .tup ds => some (.tup (cutD ds lo hi))
  | .str z => if z.length ≤ sizeLine then some (.str (cutS z lo hi)) else none
  | _ => none
def fSlO (lo hi : Option Int) : D → Option D
  | .lst ds => some (.lst (cutD ds lo hi))
  | .scr ns => some (.lst ((cutD ns lo hi).map .int))
  | _ => none
def mSl (f : Option Int → Option Int → D → Option D) (a : ME) (lo hi : MO) : ME := fun ρ => (a ρ).bind fun d ρ1 => (lo ρ1).bind fun l ρ2 => (hi ρ2).bind fun u ρ3 => RR.of (f l u d) ρ3
theorem cut_ints (ns : List Int) (lo hi : Option Int) : cutV (ns.map V.int) lo hi = (cutD ns lo hi).map V.int := by
  unfold cutV cutD
  rw [List.length_map, List.map_take, List.map_drop]
def rSlAll (K : PySem.W.Frag) : V → Option Int → Option Int → Hp → VK → Prop := fun x lo hi H Q => rSlL K x lo hi H Q ∨ (rSlA K x lo hi H Q ∨ rSlS x lo hi H Q)
theorem sl_sound {v : V} {d z : D} {lo hi : Option Int} {Q : VK} (h : EnvOk K G F S H μ σ ρ) (q : Dat K G S v d) (e : fSl lo hi d = some z) (k : RVal K G μ F S σ ρ .d z Q) : rSlAll K v lo hi H Q := by
  cases q with
  | lst a1 a2 =>
    cases e
    exact .inl ⟨_, _, rfl, .inl (.inl (h.sh _ _ a1)), fun p hp => RVal.lst k h (cut_datL a2 lo hi) hp⟩
  | scr a1 =>
    cases e
    exact .inl ⟨_, _, rfl, Evl.ex_l h.sh a1, fun p hp => by rw [cut_ints]; exact RVal.lst k h (datL_ints _) hp⟩
  | tup a1 a2 =>
    cases e
    refine .inr (.inl ⟨_, _, rfl, Evl.ex_t h.sh a1, fun w => ?_, fun _ p hp => RVal.tup k h (cut_datL a2 lo hi) hp⟩)
    rename_i a vs ds
    have e2 : cutD ds lo hi = ds := by
      have w1 := w.1
      have w2 := w.2
      rw [a2.length] at w1 w2
      unfold cutD
      rw [w1, w2, List.drop_zero, Nat.sub_zero, List.take_length]
    rw [e2] at k
    exact k _ S H (Evl.Ex.refl S) (h.push (.tup a1 a2))
  | str x =>
    have e' : (if x.length ≤ sizeLine then some (D.str (cutS x lo hi)) else none) = some z := e
    split at e'
    · rename_i hl
      cases e'
      exact .inr (.inr ⟨x, rfl, hl, k _ S H (Evl.Ex.refl S) (h.push (.str _))⟩)
    · cases e'
  | _ => cases e
theorem je_slice {e : Expr} {lo hi : Option Expr} {a : ME} {ml mh : MO} {p2 pos : Pos} (he : JE X G E .d μ e a) (hl : JO X G E μ lo ml) (hh : JO X G E μ hi mh) : JE X G E .d μ (.Subscript e (.Slice lo hi none p2) pos) (mSl fSl a ml mh) := by
  obtain ⟨t1, p1, s1⟩ := he.ex
  obtain ⟨t2, p2', s2⟩ := hl.ex
  obtain ⟨t3, p3, s3⟩ := hh.ex
  refine ⟨_, pe_slice (r := rSlAll X.K) (sl_list.or (sl_tupA.or sl_str)) p1 p2' p3, fun F S H σ ρ h Q k => s1 F S H σ ρ h _ ?_⟩
  unfold mSl at k
  cases q : a ρ with
  | ok d ρ1 =>
    rw [q, bind_ok] at k
    intro v S1 H1 e1 h1
    have hd := h1.head
    refine s2 F S1 H1 σ ρ1 h1.tail _ ?_
    have k1 := EOk.mono e1 k
    cases q2 : ml ρ1 with
    | ok l ρ2 =>
      rw [q2, bind_ok] at k1
      intro S2 H2 e2 h2
      refine s3 F S2 H2 σ ρ2 h2 _ ?_
      have k2 := EOk.mono e2 k1
      cases q3 : mh ρ2 with
      | ok u ρ3 =>
        rw [q3, bind_ok] at k2
        intro S3 H3 e3 h3
        have k3 := EOk.mono e3 k2
        cases q4 : fSl l u d with
        | none => rw [q4] at k3; exact k3.elim
        | some z => rw [q4] at k3; exact sl_sound h3 (hd.mono (e2.trans e3)) q4 k3
      | exc e4 ρ3 => rw [q3] at k2; exact k2
      | bad => rw [q3] at k2; exact k2
    | exc e4 ρ3 => rw [q2] at k1; exact k1
    | bad => rw [q2] at k1; exact k1
  | exc e1 ρ1 => rw [q] at k; exact k
  | bad => rw [q] at k; exact k
theorem je_sliceO {e : Expr} {lo hi : Option Expr} {a : ME} {ml mh : MO} {p2 pos : Pos} (he : JE X G E .d μ e a) (hl : JO X G E μ lo ml) (hh : JO X G E μ hi mh) : JE X G E .o μ (.Subscript e (.Slice lo hi none p2) pos) (mSl fSlO a ml mh) := by
  obtain ⟨t1, p1, s1⟩ := he.ex
  obtain ⟨t2, p2', s2⟩ := hl.ex
  obtain ⟨t3, p3, s3⟩ := hh.ex
  refine ⟨_, pe_slice (r := rSlL X.K) sl_list p1 p2' p3, fun F S H σ ρ h Q k => s1 F S H σ ρ h _ ?_⟩
  unfold mSl at k
  cases q : a ρ with
  | ok d ρ1 =>
    rw [q, bind_ok] at k
    intro v S1 H1 e1 h1
    have hd := h1.head
    refine s2 F S1 H1 σ ρ1 h1.tail _ ?_
    have k1 := EOk.mono e1 k
    cases q2 : ml ρ1 with
    | ok l ρ2 =>
      rw [q2, bind_ok] at k1
      intro S2 H2 e2 h2
      refine s3 F S2 H2 σ ρ2 h2 _ ?_
      have k2 := EOk.mono e2 k1
      cases q3 : mh ρ2 with
      | ok u ρ3 =>
        rw [q3, bind_ok] at k2
        intro S3 H3 e3 h3
        have k3 := EOk.mono e3 k2
        have hd3 := hd.mono (e2.trans e3)
        cases hd3 with
        | lst a1 a2 => exact ⟨_, _, rfl, .inl (.inl (h3.sh _ _ a1)), fun p hp => RVal.lstO k3 h3 (cut_datL a2 l u) hp⟩
        | scr a1 => exact ⟨_, _, rfl, Evl.ex_l h3.sh a1, fun p hp => by rw [cut_ints]; exact RVal.lstO k3 h3 (datL_ints _) hp⟩
        | _ => exact k3.elim
      | exc e4 ρ3 => rw [q3] at k2; exact k2
      | bad => rw [q3] at k2; exact k2
    | exc e4 ρ3 => rw [q2] at k1; exact k1
    | bad => rw [q2] at k1; exact k1
  | exc e1 ρ1 => rw [q] at k; exact k
  | bad => rw [q] at k; exact k
/-! ### x[i] = v, x an owned list -/
def setD (ds : List D) (i : Int) (d : D) : Option (List D) := (ixN ds.length i).map fun j => ds.set j d
def bSetO (i : Nat) (a : ME) : MB := fun d ρ => match a ρ with
  | .ok (.int k) ρ1 => match lstAt i ρ1 with
    | some ds => (setD ds k d).map fun es => ρ1.set i (.lst es)
    | none => none
  | _ => none
theorem jg_setO {x : Str} {i : Nat} {e : Expr} {a : ME} {p pos : Pos} (he : JE X G (fun _ => E0) .d μ e a) (hm : μ[i]? = some .o := by rfl) (hN : X.N[i]? = some x := by rfl) (hx : Vis X.env.scope x := by first | exact Or.inl rfl | exact Or.inr (Or.inl rfl) | exact Or.inr (Or.inr rfl)) (hd : (x == ("__debug__" : Str)) = false := by decide) (hcd : (x == ("__classdict__" : Str)) = false := by decide)
    (ha : ∀ v, assign (.Subscript (.Name x p) e pos) X.env v = (do
      let ov ← holding [v] (eval (.Name x p) X.env)
      let iv ← holding [v, ov] (eval e X.env)
      standAt pos
      holding [v, ov, iv] (setItem ov iv v)
      release [v, ov, iv] []) := by intro _; rfl) : JG X G μ μ (.Subscript (.Name x p) e pos) (bSetO i a) := by
  obtain ⟨t1, p1, s1⟩ := he.ex
  refine ⟨_, pg_sub (pe_var hN hx hd hcd) p1 set_list ha, fun F S H σ ρ v d ρ' h q z Q k => ?_⟩
  obtain ⟨p, q1, _⟩ := h.ovar hm
  refine ⟨_, q1, s1 F S H σ ρ h _ ?_⟩
  unfold bSetO at z
  cases q2 : a ρ with
  | ok y ρ1 =>
    rw [q2] at z
    cases y with
    | int kk =>
      dsimp only at z
      cases q3 : lstAt i ρ1 with
      | none => rw [q3] at z; cases z
      | some ds =>
        rw [q3] at z
        dsimp only at z
        cases q4 : setD ds kk d with
        | none => rw [q4] at z; cases z
        | some es =>
          rw [q4] at z
          cases z
          intro w S1 H1 e1 h1
          have hw := h1.head
          cases hw
          obtain ⟨vs, z1, z2⟩ := h1.tail.olst hm q1 q3
          unfold setD at q4
          cases q5 : ixN ds.length kk with
          | none => rw [q5] at q4; cases q4
          | some j =>
            rw [q5] at q4
            cases q4
            refine ⟨p, vs, kk, j, rfl, rfl, z1, by rw [z2.length]; exact q5, k _ S1 _ e1 (h1.tail.chO hm q1 (.lst upd_same (DatL.set (q.mono e1) j z2).ownL))⟩
    | _ => cases z
  | exc _ _ => rw [q2] at z; cases z
  | bad => rw [q2] at z; cases z
/-! ### is True -/
def fIsB : D → D → Option Bool
  | .bl a, .bl b => some (decide (a = b))
  | _, _ => none
def fNotB : D → D → Option Bool
  | .bl a, .bl b => some (!decide (a = b))
  | _, _ => none
theorem opb_isB {K : PySem.W.Frag} : OpB K G rIsB fIsB := by
  intro F S H μ σ ρ x y dx dy z e q1 q2 q3 Q k
  unfold fIsB at q3
  split at q3
  · cases q3
    cases q1
    cases q2
    exact ⟨_, _, rfl, rfl, k⟩
  · cases q3
theorem opb_notB {K : PySem.W.Frag} : OpB K G rNotB fNotB := by
  intro F S H μ σ ρ x y dx dy z e q1 q2 q3 Q k
  unfold fNotB at q3
  split at q3
  · cases q3
    cases q1
    cases q2
    exact ⟨_, _, rfl, rfl, k⟩
  · cases q3
end
end MR

set_option Elab.async false
set_option linter.all false
set_option maxRecDepth 100000
set_option maxHeartbeats 1000000
/-! MB10: repr of plain data (where no repr is under way). -/
namespace MR
open PySem L2 PySem.Spec PyProof.Rows
section
variable {K : PySem.W.Frag} {G : Cl} {E : XS} {C : SC} {μ μ' μ1 : List Mode} {r : Mode} {X : Cx} {F S H : Hp} {σ : L2.St} {ρ : List D}
def isRefD : D → Bool
  | .tup _ => true
  | .lst _ => true
  | _ => false
def fRepr (d : D) : Option D := if isRefD d = true then (toPy d).bind fun p => if p.showable = true ∧ p.hasDict = false ∧ p.depth ≤ 60 ∧ p.shown.length ≤ sizeLine then some (.str p.shown) else none else none
def rRepr (K : PySem.W.Frag) : List V → Hp → VK → Prop := fun xs H Q => ∃ (a : Addr) (p : PyData), xs = [.ref a] ∧ Dp K H (.ref a) p ∧ p.showable = true ∧ p.hasDict = false ∧ p.depth ≤ 60 ∧ p.shown.length ≤ sizeLine ∧ Q (.str p.shown) H
theorem call_reprD (hg : X.A.guards = some []) (hu : X.A.units + 64 < cLine) : CallR X (.builtin "repr") (rRepr X.K) := by
  intro pins s σ H xs us Q I rv h
  obtain ⟨a, p, rfl, dp, h1, h2, h3, h4, q⟩ := h
  cases rv with
  | cons r0 rr =>
    cases rr
    cases r0
    obtain ⟨as, rd⟩ := Dp.reads I p (.ref a) (.ref a) dp rfl
    refine repr_of_reads' rd h1 (fun z => by rw [h2] at z; cases z) hg (by omega) (fun _ _ z => z) (fun h' u tk hk => ⟨.str p.shown, H, I.kept (t' := tk) hk, ⟨_, rfl⟩, q⟩) h4
theorem je_repr {e : Expr} {a : ME} {y : Str} {p pos : Pos} (he : JE X G E .d μ e a) (hm : X.mg y = none) (hgd : X.A.guards = some []) (hu : X.A.units + 64 < cLine) (hg : Gl X y := by rfl) (hv : bootBuiltins y = some (.builtin "repr") := by decide +kernel) (hn : y ≠ "__name__" := by decide) (hdy : (y == ("__debug__" : Str)) = false := by decide)
    (h1 : starEach [e] X.env = (false, eval e X.env) :: starEach [] X.env := by rfl) (hpl : (backTo pos (starEach [] X.env)).any (·.1) = false := by rfl) : JE X G E .d μ (.Call (.Name y p) [e] [] pos) (mUn fRepr a) := by
  obtain ⟨t1, p1, s1⟩ := he.ex
  refine ⟨_, pe_callB (call_reprD hgd hu) hg hm hv (pa_cons p1 pa_nil h1) hn hdy h1 hpl, fun F S H σ ρ h Q k => s1 F S H σ ρ h _ ?_⟩
  unfold mUn at k
  cases q : a ρ with
  | ok x ρ1 =>
    rw [q, bind_ok] at k
    intro v S1 H1 e1 h1
    unfold fRepr at k
    split at k
    · rename_i hr
      cases q2 : toPy x with
      | none => rw [q2] at k; exact k.elim
      | some pd =>
        rw [q2] at k
        dsimp only [Option.bind_some] at k
        split at k
        · rename_i hc
          have dp := dp_mono h1.sh (toPy_dp h1.head q2)
          have hd := h1.head
          cases hd with
          | tup a1 a2 => exact ⟨_, pd, rfl, dp, hc.1, hc.2.1, hc.2.2.1, hc.2.2.2, k _ S1 H1 e1 (h1.tail.push (.str _))⟩
          | lst a1 a2 => exact ⟨_, pd, rfl, dp, hc.1, hc.2.1, hc.2.2.1, hc.2.2.2, k _ S1 H1 e1 (h1.tail.push (.str _))⟩
          | _ => cases hr
        · exact k.elim
    · exact k.elim
  | exc e ρ1 => rw [q] at k; exact k
  | bad => rw [q] at k; exact k
end
end MR

set_option Elab.async false
set_option linter.all false
set_option maxRecDepth 100000
set_option maxHeartbeats 1000000
/-! MB11: the law's def at the place where it is called (no repr is under way there). -/
namespace MR
open PySem L2 PySem.Spec PyProof.Rows
section
variable {K : PySem.W.Frag} {G : Cl} {P : Program} {w : World} {mg : Str → Option Value} {base : Heap}
/-- the promise of a def that is called by the claim's caller alone -/
structure FnG (P : Program) (w : World) (K : PySem.W.Frag) (mg : Str → Option Value) (base : Heap) (f : Addr) (fd : FuncData) (ps : List Str) (sp : Sp) : Prop where
  go : ∀ (st : Shared) (hp : Hp) (us : List Value) (vs : List V) (Q : VK) (E : XK), Env0 P w K mg base callerA [] st hp → BindsTo st fd ⟨us, []⟩ (ps.zip us) → Vals vs us → sp vs hp Q E →
    codeAny (model P w) callerA (.call (.ref f) ⟨us, []⟩) (CR (L2.CX P w) [] P w hp st Q E) st
theorem FnG.imp {f : Addr} {fd : FuncData} {ps : List Str} {sp sp' : Sp} (F : FnG P w K mg base f fd ps sp) (h : ∀ vs H Q E, sp' vs H Q E → sp vs H Q E) : FnG P w K mg base f fd ps sp' :=
  ⟨fun st hp us vs Q E e b v s => F.go st hp us vs Q E e b v (h _ _ _ _ s)⟩
theorem room_caller {k : Nat} (h : k ≤ 40 := by decide) : Room k callerA := Room.mono (k := 40) ⟨rfl, by decide, by decide⟩ h
theorem fn_okG {x qual : Str} {st : Stmt} {f : Addr} {fd : FuncData} {N ps : List Str} {lv n k : Nat} {rm : Mode} {b : MS} {μe : List Mode} (F : Fun K x qual st f fd) (sc : FnScope N ps (defScope st)) (hn : ps.length = n) (hk : N.length = n + k) (hlv : lv + 1 ≤ 40)
    (hb : ∀ (cdv : Value) (A : Around) (outer : List Env) (s : Shared) (H : Hp) (E : XK), (A.deeper (envOfC qual (defScope st) s.heap.objs.size f cdv)).guards = some [] → Room lv (A.deeper (envOfC qual (defScope st) s.heap.objs.size f cdv)) →
      JSs (cxOf (L2.CX P w) P w K mg base N qual (defScope st) f cdv A outer s H E) G (scOf E rm n k) (List.replicate n .d ++ List.replicate k .x) μe (defBody st) b) :
    FnG P w K mg base f fd ps (spP K G n rm (mDef rm k b)) := by
  obtain ⟨oc, od, kV, doc, pm, an, cdv, ct, osl, rfl, lk, hcd⟩ := F.ex
  refine ⟨fun s H us vs Q E e0 hbi rv hsp => ?_⟩
  have R : Room (lv + 1) callerA := room_caller hlv
  have len : vs.length = ps.length := by rw [spP_len hsp, hn]
  have inK : K.In s.heap := e0.mod.kin.keeps fun a o z => (e0.bs a o z).1
  refine codeAny_call_function R.depth (inK _ _ lk) rfl sc.co sc.gen rfl (PySem.W.codeRec_of inK hcd) (hbi _ _ _ _ ?_)
  refine wpAny_newFunctionEnv_cells sc.kind (fun y hy => ?_) fun env ev s1 x => ?_
  · rcases sc.par y.1 (List.of_mem_zip (show (y.1, y.2) ∈ ps.zip us from hy)).1 with q | q
    · exact Or.inl q
    · exact Or.inr ⟨q, PySem.W.cellsFrom_some _ _ _ (Or.inl q)⟩
  subst ev
  refine ⟨(e0.mod.nolimit.keeps fun a o z => (e0.bs a o z).1).keeps x.toInCall.keep, codeAny_func ?_⟩
  obtain ⟨t, p1, s1'⟩ := (hb cdv callerA [] s H E rfl (R.deeper _)).ex
  have start_ok := inv_start (CX := L2.CX P w) (f := f) (cd := cdv) (qual := qual) (E := E) sc R.hd e0 len rv x
  have entry : t { nx := fun _ H' => Q .non H', rt := Q } (L2.start N vs) H := by
    obtain ⟨F0, S, ds, sh, fk, q, l, z⟩ := hsp
    have e1 : L2.start N vs = vs.map some ++ List.replicate k none := by
      unfold L2.start
      rw [show N.length - vs.length = k by omega]
    rw [e1]
    have en := EnvOk.args (G := G) sh fk q k
    rw [l] at en
    refine s1' F0 S H _ _ en _ ?_
    unfold mDef at z
    cases q2 : b (ds ++ List.replicate k .non) with
    | nx ρ' =>
      rw [q2] at z
      cases rm with
      | d => exact fun σ' S' H' e' h' => z _ S' H' e' (nonOk h' rfl)
      | _ => exact z.elim
    | ret d ρ' => rw [q2] at z; exact fun v μ1 σ' S' H' _ e' h' => z v S' H' e' h'.alone
    | exc e ρ' => rw [q2] at z; exact fun μ1 σ' c dct S' H' _ e' h' xx => z c dct S' H' e' h'.nothing xx
    | brk ρ' => rw [q2] at z; exact z.elim
    | cnt ρ' => rw [q2] at z; exact z.elim
    | bad => rw [q2] at z; exact z.elim
  refine wpAny_mono (p1.run [] s1 _ H _ start_ok entry) (fun fl s2 h2 => ?_) fun _ _ h2 => h2
  match fl, h2 with
  | .ret u, ⟨v, _, H2, J, r2, q2⟩ => exact ⟨v, H2, J.os, J.bare, J.base, J.hok, r2, q2⟩
  | .next, ⟨_, H2, J, q2⟩ => exact ⟨V.non, H2, J.os, J.bare, J.base, J.hok, rfl, q2⟩
  | .brk, ⟨_, _, _, q2⟩ => exact q2.elim
  | .cont, ⟨_, _, _, q2⟩ => exact q2.elim
/-- from a state in which at most the script is tracked -/
theorem law_at {fa a : Addr} {fd : FuncData} {x : Str} {sp : Sp} {s₁ : Shared} {mb : Str → Option Value} {H : Hp} (inK : K.In s₁.heap) (gl : s₁.heap.Ns mainGlobals mg) (bl : s₁.heap.Ns builtinsNs mb) (bq : ∀ x : Str, x ≠ "__name__" → mb x = bootBuiltins x) (nl : s₁.heap.NoLimit) (ng : s₁.gens = #[])
    {its : Array Value} {cnt : Nat} {dd : Option Addr} {slo : Array (Option Value)} (ha : s₁.heap.get? a = some ⟨.type "list", dd, .seq its cnt, slo⟩)
    (F : ∀ b : Heap, K.In b → b.Ns mainGlobals mg → FnG P w K mg b fa fd [x] sp) (bnd : ∀ (s : Shared) (u : Value), BindsTo s fd ⟨[u], []⟩ [(x, u)])
    (prom : sp [.ref a] H (fun v _ => v = .bl true) fun _ _ _ => False) (hO : Only H) (hok : HOk P w H s₁.heap) (hA : ∀ b, H b ≠ none → b = a) (hK : H a ≠ none → K.lookup a = none) :
    codeAny (model P w) callerA (.call (.ref fa) ⟨[.ref a], []⟩) (fun r s' => r = .ok (.ret (.bool true)) ∧ OldK s₁.heap s'.heap ∧ s'.os = s₁.os ∧ AllBare s'.gens) s₁ := by
  have keep1 : ∀ {c : Addr} {o : Obj}, s₁.heap.get? c = some o → H c = none → (hidT s₁.heap H).get? c = some o := fun q n => hidT_get q n
  have free : ∀ {c : Addr} {o : Obj}, s₁.heap.get? c = some o → (∀ es ep, o.data = .dict es ep → H c = none) := fun {c o} q es ep d => by
    cases z : H c with
    | none => rfl
    | some u =>
      exfalso
      have zc := hA c (by rw [z]; exact fun y => by cases y)
      rw [zc, ha] at q
      injection q with q
      subst q
      cases d
  have names : ∀ {c : Addr} {m : Str → Option Value}, s₁.heap.Ns c m → (hidT s₁.heap H).Ns c m := by
    rintro c m ⟨o, es, ep, q, d, r⟩
    exact ⟨o, es, ep, keep1 q (free q es ep d), d, r⟩
  have inB : K.In (hidT s₁.heap H) := fun c o q => by
    refine keep1 (inK c o q) ?_
    cases z : H c with
    | none => rfl
    | some u =>
      exfalso
      have zc := hA c (by rw [z]; exact fun y => by cases y)
      have := hK (by rw [← zc, z]; exact fun y => by cases y)
      rw [zc, this] at q
      cases q
  obtain ⟨mc, l1, l2⟩ := nl
  have e0 : Env0 P w K mg (hidT s₁.heap H) callerA [] s₁ H :=
    ⟨rfl, ⟨inB, names gl, ⟨mb, names bl, bq⟩, ⟨mc, names l1, l2⟩⟩, fun c o q => of_hidT q, Nat.le_of_eq (hidT_size _ _), trivial, fun c hc => absurd (show c ∈ ([] : List Addr) from hc) (by simp), hok, .of_eq ng⟩
  refine codeAny_mono ((F _ inB (names gl)).go s₁ H [.ref a] [.ref a] _ _ e0 (bnd s₁ (.ref a)) (.cons rfl .nil) prom) fun r s2 h2 => ?_
  match r, h2 with
  | .ok (.ret u), ⟨v, H2, q1, q2, un, hok2, rv, q3⟩ =>
    have q3 : v = .bl true := q3
    subst q3
    cases (show u = Value.bool true from rv)
    refine ⟨rfl, OldK.of_keep fun c o q => ?_, q1, q2⟩
    rcases hO c with z | ⟨ob, ys, z⟩
    · exact un.keep c o q z (fun y => absurd (show c ∈ ([] : List Addr) from y) (by simp)) (by simp)
    · have z2 := un.frzs c ob _ z
      obtain ⟨k1, _⟩ := hok c _ z
      obtain ⟨k2, _⟩ := hok2 c _ z2
      rw [q] at k1
      injection k1 with k1
      rw [k1]
      exact k2
  | .ok .next, z => exact z.elim
  | .ok .brk, z => exact z.elim
  | .ok .cont, z => exact z.elim
  | .error e, z =>
    obtain ⟨_, _, _, _, _, _, _, _, _, _, _, _, q⟩ := z
    exact q.elim
theorem walk_ofG {l : PySem.W.OpenLaw} {n : Nat} {q : Program} {loose : List Str} {XP : (Str → Option Value) → Heap → Prop} {YP : World → Heap → Prop} {d : DefRec} {Kp : Params → PySem.W.Frag} {sp : World → Sp} {x : Str}
    (hn : l.most = some n) (hn2 : n ≤ sizeLine) (hdf : d.params.defaults = []) (hY : ∀ (w : World) (h : Heap), YP w h → (Kp w.params).In h)
    (F : ∀ (w : World) (mg : Str → Option Value) (fa : Addr) (h : Heap), (Kp w.params).In h → h.Ns mainGlobals mg → mg d.name = some (.ref fa) →
      ∃ fd : FuncData, (∀ (s : Shared) (u : Value), BindsTo s fd ⟨[u], []⟩ [(x, u)]) ∧ ∀ base : Heap, (Kp w.params).In base → base.Ns mainGlobals mg → FnG l.prog w (Kp w.params) mg base fa fd [x] (sp w))
    (hsp : ∀ (w : World) (H : Hp) (a : Addr) (ns : List Int), ns.length ≤ n → Only H → SqL (Kp w.params) H a (ns.map V.int) → sp w [.ref a] H (fun v _ => v = .bl true) fun _ _ _ => False) :
    PySem.W.WalkO q loose XP YP l.row.toRowW d [] (fun f vs => PySem.call f vs) := by
  refine Att.attach_call hn hdf fun w s₀ s₁ mg mb fa o pm cd doc a vs ns Gr Y _ _ _ hmg hobj hints hlen hg => ?_
  have inK := hY w _ Y
  obtain ⟨fd, hb, hF⟩ := F w mg fa _ inK Gr.T.g hmg
  have rv := vals_ints hints
  have ln : vs.length = ns.length := hints.length
  have sz : ns.length ≤ sizeLine := Nat.le_trans hlen hn2
  cases hk : (Kp w.params).lookup a with
  | some ob =>
    have q := inK a ob hk
    rw [hobj] at q
    injection q with q
    subst q
    refine law_at (H := fun _ => none) inK Gr.T.g Gr.T.b Gr.T.builtins Gr.T.nolimit hg hobj hF hb (hsp w _ a ns hlen (fun _ => Or.inl rfl) (Or.inr ⟨_, vs.toArray, _, hk, rfl, rfl, rfl, by rw [List.size_toArray, ln]; exact sz, by simpa using rv⟩)) (fun _ => Or.inl rfl) (fun c u z => ?_) (fun c z => absurd rfl z) fun z => absurd rfl z
    cases (show (none : Option HO) = some u from z)
  | none =>
    let Hs : Hp := fun c => if c = a then some (.frz { cls := .type "list", data := .seq vs.toArray } (.lst (ns.map V.int))) else none
    have h1 : Hs a = some (.frz { cls := .type "list", data := .seq vs.toArray } (.lst (ns.map V.int))) := if_pos rfl
    have hO : Only Hs := fun c => by
      by_cases z : c = a
      · exact Or.inr ⟨_, _, if_pos z⟩
      · exact Or.inl (if_neg z)
    refine law_at (H := Hs) inK Gr.T.g Gr.T.b Gr.T.builtins Gr.T.nolimit hg hobj hF hb (hsp w Hs a ns hlen hO (Or.inl (Or.inr ⟨_, h1⟩))) hO (fun c u z => ?_) (fun c z => ?_) fun _ => hk
    · by_cases zc : c = a
      · subst zc
        rw [h1] at z
        cases z
        exact ⟨hobj, by rw [List.length_map]; exact sz, vs, _, rv, hobj⟩
      · have z2 : Hs c = none := if_neg zc
        rw [z2] at z
        cases z
    · by_cases zc : c = a
      · exact zc
      · exact absurd (if_neg zc) z
end
end MR

set_option Elab.async false
set_option linter.all false
set_option maxRecDepth 100000
set_option maxHeartbeats 1000000
/-! PB: how mirrors reckon: rules for simp. -/
namespace MR
open PySem L2

/-! ### outcomes -/
def Out.andThen (o : Out) (b : MS) : Out := match o with
  | .nx ρ => b ρ
  | o => o
section
variable {a b c : MS} {ρ : List D} {d : D} {e : Err}
@[simp] theorem then_nx : (Out.nx ρ).andThen b = b ρ := rfl
@[simp] theorem then_ret : (Out.ret d ρ).andThen b = .ret d ρ := rfl
@[simp] theorem then_brk : (Out.brk ρ).andThen b = .brk ρ := rfl
@[simp] theorem then_cnt : (Out.cnt ρ).andThen b = .cnt ρ := rfl
@[simp] theorem then_exc : (Out.exc e ρ).andThen b = .exc e ρ := rfl
@[simp] theorem then_bad : Out.bad.andThen b = .bad := rfl
@[simp] theorem mSeq_eq : mSeq a b ρ = (a ρ).andThen b := by unfold mSeq; cases a ρ <;> rfl
@[simp] theorem mNext_eq : mNext ρ = .nx ρ := rfl
@[simp] theorem mPass_eq : mPass ρ = .nx ρ := rfl
@[simp] theorem mBreak_eq : mBreak ρ = .brk ρ := rfl
@[simp] theorem mCont_eq : mCont ρ = .cnt ρ := rfl
def Out.keep' (μ : List Mode) (o : Out) : Out := match o with
  | .nx ρ => .nx (keep μ ρ)
  | o => o
@[simp] theorem keep_nx {μ} : (Out.nx ρ).keep' μ = .nx (keep μ ρ) := rfl
@[simp] theorem keep_ret {μ} : (Out.ret d ρ).keep' μ = .ret d ρ := rfl
@[simp] theorem keep_brk {μ} : (Out.brk ρ).keep' μ = .brk ρ := rfl
@[simp] theorem keep_cnt {μ} : (Out.cnt ρ).keep' μ = .cnt ρ := rfl
@[simp] theorem keep_exc {μ} : (Out.exc e ρ).keep' μ = .exc e ρ := rfl
@[simp] theorem keep_bad {μ} : Out.bad.keep' μ = .bad := rfl
@[simp] theorem mKeep_eq {μ} : mKeep μ a ρ = (a ρ).keep' μ := by unfold mKeep; cases a ρ <;> rfl
@[simp] theorem mKeep0_eq {μ} : mKeep0 μ a ρ = a (keep μ ρ) := rfl
@[simp] theorem keep_x {ms : List Mode} {ds : List D} : keep (.x :: ms) (d :: ds) = .non :: keep ms ds := rfl
@[simp] theorem keep_d {ms : List Mode} {ds : List D} : keep (.d :: ms) (d :: ds) = d :: keep ms ds := rfl
@[simp] theorem keep_o {ms : List Mode} {ds : List D} : keep (.o :: ms) (d :: ds) = d :: keep ms ds := rfl
@[simp] theorem keep_w {ms : List Mode} {ds : List D} : keep (.w :: ms) (d :: ds) = d :: keep ms ds := rfl
@[simp] theorem keep_nil {ds : List D} : keep [] ds = [] := by cases ds <;> rfl
end
section
variable {α β : Type} {a b : ME} {ma : MA} {t u : MT} {s1 s2 : MS} {ρ : List D} {d x y : D} {ds : List D} {e : Err} {i j : Nat}
def RR.asg (o : RR D) (i : Nat) : Out := match o with
  | .ok d ρ' => .nx (ρ'.set i d)
  | .exc e ρ' => .exc e ρ'
  | .bad => .bad
@[simp] theorem asg_ok : (RR.ok d ρ).asg i = .nx (ρ.set i d) := rfl
@[simp] theorem asg_exc : (RR.exc e ρ : RR D).asg i = .exc e ρ := rfl
@[simp] theorem asg_bad : (RR.bad : RR D).asg i = .bad := rfl
@[simp] theorem mAsg_eq : mAsg i a ρ = (a ρ).asg i := rfl
def RR.ret (o : RR D) : Out := match o with
  | .ok d ρ' => .ret d ρ'
  | .exc e ρ' => .exc e ρ'
  | .bad => .bad
@[simp] theorem ret_ok : (RR.ok d ρ).ret = .ret d ρ := rfl
@[simp] theorem ret_exc : (RR.exc e ρ : RR D).ret = .exc e ρ := rfl
@[simp] theorem ret_bad : (RR.bad : RR D).ret = .bad := rfl
@[simp] theorem mRet_eq : mRet a ρ = (a ρ).ret := rfl
@[simp] theorem mRetO_eq : mRetO i ρ = .ret (ρ.getD i .non) ρ := rfl
def RR.drop (o : RR D) : Out := match o with
  | .ok _ ρ' => .nx ρ'
  | .exc e ρ' => .exc e ρ'
  | .bad => .bad
@[simp] theorem drop_ok : (RR.ok d ρ).drop = .nx ρ := rfl
@[simp] theorem drop_exc : (RR.exc e ρ : RR D).drop = .exc e ρ := rfl
@[simp] theorem drop_bad : (RR.bad : RR D).drop = .bad := rfl
@[simp] theorem mDrop_eq : mDrop a ρ = (a ρ).drop := rfl
def RR.branch (o : RR Bool) (a b : MS) : Out := match o with
  | .ok true ρ' => a ρ'
  | .ok false ρ' => b ρ'
  | .exc e ρ' => .exc e ρ'
  | .bad => .bad
@[simp] theorem branch_t : (RR.ok true ρ).branch s1 s2 = s1 ρ := rfl
@[simp] theorem branch_f : (RR.ok false ρ).branch s1 s2 = s2 ρ := rfl
@[simp] theorem branch_exc : (RR.exc e ρ : RR Bool).branch s1 s2 = .exc e ρ := rfl
@[simp] theorem branch_bad : (RR.bad : RR Bool).branch s1 s2 = .bad := rfl
@[simp] theorem mIf_eq : mIf t s1 s2 ρ = (t ρ).branch s1 s2 := rfl
theorem branch_ite {p : Bool} : (RR.ok p ρ).branch s1 s2 = if p = true then s1 ρ else s2 ρ := by cases p <;> rfl
/-- expressions -/
@[simp] theorem mVar_eq : mVar i ρ = .ok (ρ.getD i .non) ρ := rfl
@[simp] theorem mC_eq : mC d ρ = .ok d ρ := rfl
def RR.op1 (o : RR D) (f : D → D → Option α) (b : ME) : RR α := o.bind fun x ρ1 => (b ρ1).bind fun y ρ2 => RR.of (f x y) ρ2
def RR.op2 (o : RR D) (f : D → D → Option α) (x : D) : RR α := o.bind fun y ρ2 => RR.of (f x y) ρ2
@[simp] theorem op1_ok {f : D → D → Option α} : (RR.ok x ρ).op1 f b = (b ρ).op2 f x := rfl
@[simp] theorem op1_exc {f : D → D → Option α} : (RR.exc e ρ : RR D).op1 f b = .exc e ρ := rfl
@[simp] theorem op1_bad {f : D → D → Option α} : (RR.bad : RR D).op1 f b = .bad := rfl
@[simp] theorem op2_ok {f : D → D → Option α} : (RR.ok y ρ).op2 f x = RR.of (f x y) ρ := rfl
@[simp] theorem op2_exc {f : D → D → Option α} : (RR.exc e ρ : RR D).op2 f x = .exc e ρ := rfl
@[simp] theorem op2_bad {f : D → D → Option α} : (RR.bad : RR D).op2 f x = .bad := rfl
@[simp] theorem rr_of_some {a : α} : RR.of (some a) ρ = .ok a ρ := rfl
@[simp] theorem rr_of_none : (RR.of none ρ : RR α) = .bad := rfl
@[simp] theorem mOp_eq {f : D → D → Option D} : mOp f a b ρ = (a ρ).op1 f b := rfl
@[simp] theorem mCmpT_eq {f : D → D → Option Bool} : mCmpT f a b ρ = (a ρ).op1 f b := rfl
def RR.bl (o : RR Bool) : RR D := o.bind fun x ρ1 => .ok (.bl x) ρ1
@[simp] theorem bl_ok {p : Bool} : (RR.ok p ρ).bl = .ok (.bl p) ρ := rfl
@[simp] theorem bl_exc : (RR.exc e ρ : RR Bool).bl = .exc e ρ := rfl
@[simp] theorem bl_bad : (RR.bad : RR Bool).bl = .bad := rfl
@[simp] theorem mCmp_eq {f : D → D → Option Bool} : mCmp f a b ρ = ((a ρ).op1 f b).bl := by
  unfold mCmp mOp RR.op1 RR.bl
  cases a ρ with
  | ok x ρ1 =>
    simp only [bind_ok]
    cases b ρ1 with
    | ok y ρ2 => simp only [bind_ok]; cases f x y <;> rfl
    | exc _ _ => rfl
    | bad => rfl
  | exc _ _ => rfl
  | bad => rfl
def RR.un (o : RR D) (f : D → Option α) : RR α := o.bind fun x ρ1 => RR.of (f x) ρ1
@[simp] theorem un_ok {f : D → Option α} : (RR.ok x ρ).un f = RR.of (f x) ρ := rfl
@[simp] theorem un_exc {f : D → Option α} : (RR.exc e ρ : RR D).un f = .exc e ρ := rfl
@[simp] theorem un_bad {f : D → Option α} : (RR.bad : RR D).un f = .bad := rfl
@[simp] theorem mUn_eq {f : D → Option D} : mUn f a ρ = (a ρ).un f := rfl
@[simp] theorem mTr_eq : mTr a ρ = (a ρ).un truth := rfl
@[simp] theorem mItL_eq : mItL a ρ = (a ρ).un itemsOf := rfl
def fIxO (d y : D) : Option D := match d with
  | .lst ds => fIx (.lst ds) y
  | _ => none
@[simp] theorem fIxO_lst : fIxO (.lst ds) y = fIx (.lst ds) y := rfl
def RR.ixO (o : RR D) (i : Nat) : RR D := o.bind fun y ρ1 => RR.of (fIxO (ρ1.getD i .non) y) ρ1
@[simp] theorem ixO_ok : (RR.ok y ρ).ixO i = RR.of (fIxO (ρ.getD i .non) y) ρ := rfl
@[simp] theorem ixO_exc : (RR.exc e ρ : RR D).ixO i = .exc e ρ := rfl
@[simp] theorem ixO_bad : (RR.bad : RR D).ixO i = .bad := rfl
@[simp] theorem mIxO_eq : mIxO i b ρ = (b ρ).ixO i := rfl
/-- tests -/
def RR.andT (o : RR Bool) (u : MT) : RR Bool := o.bind fun x ρ1 => if x = true then u ρ1 else .ok false ρ1
def RR.orT (o : RR Bool) (u : MT) : RR Bool := o.bind fun x ρ1 => if x = true then .ok true ρ1 else u ρ1
def RR.notT (o : RR Bool) : RR Bool := o.bind fun x ρ1 => .ok (!x) ρ1
@[simp] theorem andT_t : (RR.ok true ρ).andT u = u ρ := rfl
@[simp] theorem andT_f : (RR.ok false ρ).andT u = .ok false ρ := rfl
@[simp] theorem andT_exc : (RR.exc e ρ : RR Bool).andT u = .exc e ρ := rfl
@[simp] theorem andT_bad : (RR.bad : RR Bool).andT u = .bad := rfl
@[simp] theorem orT_t : (RR.ok true ρ).orT u = .ok true ρ := rfl
@[simp] theorem orT_f : (RR.ok false ρ).orT u = u ρ := rfl
@[simp] theorem orT_exc : (RR.exc e ρ : RR Bool).orT u = .exc e ρ := rfl
@[simp] theorem orT_bad : (RR.bad : RR Bool).orT u = .bad := rfl
@[simp] theorem notT_ok {p : Bool} : (RR.ok p ρ).notT = .ok (!p) ρ := rfl
@[simp] theorem notT_exc : (RR.exc e ρ : RR Bool).notT = .exc e ρ := rfl
@[simp] theorem notT_bad : (RR.bad : RR Bool).notT = .bad := rfl
@[simp] theorem mAnd_eq : mAnd t u ρ = (t ρ).andT u := rfl
@[simp] theorem mOr_eq : mOr t u ρ = (t ρ).orT u := rfl
@[simp] theorem mNot_eq : mNot t ρ = (t ρ).notT := rfl
theorem andT_ite {p : Bool} : (RR.ok p ρ).andT u = if p = true then u ρ else .ok false ρ := by cases p <;> rfl
theorem orT_ite {p : Bool} : (RR.ok p ρ).orT u = if p = true then .ok true ρ else u ρ := by cases p <;> rfl
def RR.andV (o : RR D) (b : ME) : RR D := o.bind fun x ρ1 => match x with
  | .bl true => b ρ1
  | .bl false => .ok (.bl false) ρ1
  | _ => .bad
def RR.orV (o : RR D) (b : ME) : RR D := o.bind fun x ρ1 => match x with
  | .bl true => .ok (.bl true) ρ1
  | .bl false => b ρ1
  | _ => .bad
@[simp] theorem andV_t : (RR.ok (.bl true) ρ).andV b = b ρ := rfl
@[simp] theorem andV_f : (RR.ok (.bl false) ρ).andV b = .ok (.bl false) ρ := rfl
@[simp] theorem andV_exc : (RR.exc e ρ : RR D).andV b = .exc e ρ := rfl
@[simp] theorem andV_bad : (RR.bad : RR D).andV b = .bad := rfl
@[simp] theorem orV_t : (RR.ok (.bl true) ρ).orV b = .ok (.bl true) ρ := rfl
@[simp] theorem orV_f : (RR.ok (.bl false) ρ).orV b = b ρ := rfl
@[simp] theorem orV_exc : (RR.exc e ρ : RR D).orV b = .exc e ρ := rfl
@[simp] theorem orV_bad : (RR.bad : RR D).orV b = .bad := rfl
@[simp] theorem mAndV_eq : mAndV a b ρ = (a ρ).andV b := rfl
@[simp] theorem mOrV_eq : mOrV a b ρ = (a ρ).orV b := rfl
theorem andV_ite {p : Bool} : (RR.ok (.bl p) ρ).andV b = if p = true then b ρ else .ok (.bl false) ρ := by cases p <;> rfl
theorem orV_ite {p : Bool} : (RR.ok (.bl p) ρ).orV b = if p = true then .ok (.bl true) ρ else b ρ := by cases p <;> rfl
def RR.ifE (o : RR Bool) (a b : ME) : RR D := o.bind fun x ρ1 => if x = true then a ρ1 else b ρ1
@[simp] theorem ifE_t : (RR.ok true ρ).ifE a b = a ρ := rfl
@[simp] theorem ifE_f : (RR.ok false ρ).ifE a b = b ρ := rfl
@[simp] theorem ifE_exc : (RR.exc e ρ : RR Bool).ifE a b = .exc e ρ := rfl
@[simp] theorem ifE_bad : (RR.bad : RR Bool).ifE a b = .bad := rfl
@[simp] theorem mIfE_eq : mIfE t a b ρ = (t ρ).ifE a b := rfl
/-- arguments -/
@[simp] theorem mNil_eq : mNil ρ = .ok [] ρ := rfl
def RR.cons1 (o : RR D) (b : MA) : RR (List D) := o.bind fun x ρ1 => (b ρ1).bind fun xs ρ2 => .ok (x :: xs) ρ2
def RR.cons2 (o : RR (List D)) (x : D) : RR (List D) := o.bind fun xs ρ2 => .ok (x :: xs) ρ2
@[simp] theorem cons1_ok : (RR.ok x ρ).cons1 ma = (ma ρ).cons2 x := rfl
@[simp] theorem cons1_exc : (RR.exc e ρ : RR D).cons1 ma = .exc e ρ := rfl
@[simp] theorem cons1_bad : (RR.bad : RR D).cons1 ma = .bad := rfl
@[simp] theorem cons2_ok : (RR.ok ds ρ).cons2 x = .ok (x :: ds) ρ := rfl
@[simp] theorem cons2_exc : (RR.exc e ρ : RR (List D)).cons2 x = .exc e ρ := rfl
@[simp] theorem cons2_bad : (RR.bad : RR (List D)).cons2 x = .bad := rfl
@[simp] theorem mCons_eq : mCons a ma ρ = (a ρ).cons1 ma := rfl
def RR.args (o : RR (List D)) (f : List D → Option α) : RR α := o.bind fun ds ρ1 => RR.of (f ds) ρ1
@[simp] theorem args_ok {f : List D → Option α} : (RR.ok ds ρ).args f = RR.of (f ds) ρ := rfl
@[simp] theorem args_exc {f : List D → Option α} : (RR.exc e ρ : RR (List D)).args f = .exc e ρ := rfl
@[simp] theorem args_bad {f : List D → Option α} : (RR.bad : RR (List D)).args f = .bad := rfl
@[simp] theorem mCB_eq {f : List D → Option D} : mCB f ma ρ = (ma ρ).args f := rfl
@[simp] theorem mRng_eq {f : List D → Option (List D)} : mRng f ma ρ = (ma ρ).args f := rfl
def RR.tup (o : RR (List D)) : RR D := o.bind fun ds ρ1 => if ds.length ≤ 1000 then .ok (.tup ds) ρ1 else .bad
def RR.lst (o : RR (List D)) : RR D := o.bind fun ds ρ1 => if ds.length ≤ 1000 then .ok (.lst ds) ρ1 else .bad
@[simp] theorem tup_ok : (RR.ok ds ρ).tup = if ds.length ≤ 1000 then .ok (.tup ds) ρ else .bad := rfl
@[simp] theorem tup_exc : (RR.exc e ρ : RR (List D)).tup = .exc e ρ := rfl
@[simp] theorem tup_bad : (RR.bad : RR (List D)).tup = .bad := rfl
@[simp] theorem lst_ok : (RR.ok ds ρ).lst = if ds.length ≤ 1000 then .ok (.lst ds) ρ else .bad := rfl
@[simp] theorem lst_exc : (RR.exc e ρ : RR (List D)).lst = .exc e ρ := rfl
@[simp] theorem lst_bad : (RR.bad : RR (List D)).lst = .bad := rfl
@[simp] theorem mTup_eq : mTup ma ρ = (ma ρ).tup := rfl
@[simp] theorem mLst_eq : mLst ma ρ = (ma ρ).lst := rfl
/-- calls -/
def RP.to (p : RP) (ρ : List D) : RR D := match p with
  | .ok d => .ok d ρ
  | .exc e => .exc e ρ
  | .bad => .bad
@[simp] theorem to_ok : (RP.ok d).to ρ = .ok d ρ := rfl
@[simp] theorem to_exc : (RP.exc e).to ρ = .exc e ρ := rfl
@[simp] theorem to_bad : RP.bad.to ρ = .bad := rfl
def RR.call (o : RR (List D)) (f : MP) (dd : List D) : RR D := o.bind fun ds ρ1 => (f (ds ++ dd)).to ρ1
@[simp] theorem call_ok {f : MP} {dd : List D} : (RR.ok ds ρ).call f dd = (f (ds ++ dd)).to ρ := rfl
@[simp] theorem call_exc {f : MP} {dd : List D} : (RR.exc e ρ : RR (List D)).call f dd = .exc e ρ := rfl
@[simp] theorem call_bad {f : MP} {dd : List D} : (RR.bad : RR (List D)).call f dd = .bad := rfl
@[simp] theorem mCall_eq {f : MP} {dd : List D} : mCall f dd ma ρ = (ma ρ).call f dd := rfl
def Out.done (o : Out) (rm : Mode) : RP := match o with
  | .ret d _ => .ok d
  | .nx _ => match rm with
    | .d => .ok .non
    | _ => .bad
  | .exc e _ => .exc e
  | _ => .bad
@[simp] theorem done_ret {rm} : (Out.ret d ρ).done rm = .ok d := rfl
@[simp] theorem done_nx : (Out.nx ρ).done .d = .ok .non := rfl
@[simp] theorem done_exc {rm} : (Out.exc e ρ).done rm = .exc e := rfl
@[simp] theorem done_bad {rm} : Out.bad.done rm = .bad := rfl
theorem mDef_eq {rm : Mode} {k : Nat} {s : MS} : mDef rm k s ds = (s (ds ++ List.replicate k .non)).done rm := by
  unfold mDef Out.done
  cases s (ds ++ List.replicate k .non) <;> rfl
/-- targets, parallel stores, raise -/
@[simp] theorem bName_eq : bName i d ρ = some (ρ.set i d) := rfl
@[simp] theorem bNil_eq : bNil [] ρ = some ρ := rfl
@[simp] theorem bCons_eq {f : MB} {g : List D → List D → Option (List D)} : bCons f g (d :: ds) ρ = (f d ρ).bind (g ds) := by
  show (match f d ρ with | some ρ1 => g ds ρ1 | none => none) = _
  cases f d ρ <;> rfl
@[simp] theorem bTup_eq {n : Nat} {g : List D → List D → Option (List D)} : bTup n g (.tup ds) ρ = if ds.length = n then g ds ρ else none := rfl
def RR.asgT (o : RR D) (g : MB) : Out := match o with
  | .ok d ρ1 => match g d ρ1 with
    | some ρ2 => .nx ρ2
    | none => .bad
  | .exc e ρ1 => .exc e ρ1
  | .bad => .bad
def Out.ofO (o : Option (List D)) : Out := match o with
  | some ρ => .nx ρ
  | none => .bad
@[simp] theorem ofO_some : Out.ofO (some ρ) = .nx ρ := rfl
@[simp] theorem ofO_none : Out.ofO none = .bad := rfl
@[simp] theorem asgT_ok {g : MB} : (RR.ok d ρ).asgT g = Out.ofO (g d ρ) := by
  show (match g d ρ with | some ρ2 => Out.nx ρ2 | none => .bad) = _
  cases g d ρ <;> rfl
@[simp] theorem asgT_exc {g : MB} : (RR.exc e ρ : RR D).asgT g = .exc e ρ := rfl
@[simp] theorem asgT_bad {g : MB} : (RR.bad : RR D).asgT g = .bad := rfl
@[simp] theorem mAsgT_eq {g : MB} : mAsgT g a ρ = (a ρ).asgT g := rfl
def RR.par1 (o : RR D) (i j : Nat) (b : ME) : Out := match o with
  | .ok d ρ1 => match b ρ1 with
    | .ok d2 ρ2 => .nx ((ρ2.set i d).set j d2)
    | .exc e ρ1 => .exc e ρ1
    | .bad => .bad
  | .exc e ρ1 => .exc e ρ1
  | .bad => .bad
def RR.par2 (o : RR D) (i j : Nat) (d : D) : Out := match o with
    | .ok d2 ρ2 => .nx ((ρ2.set i d).set j d2)
    | .exc e ρ1 => .exc e ρ1
    | .bad => .bad
@[simp] theorem par1_ok : (RR.ok d ρ).par1 i j b = (b ρ).par2 i j d := rfl
@[simp] theorem par1_exc : (RR.exc e ρ : RR D).par1 i j b = .exc e ρ := rfl
@[simp] theorem par1_bad : (RR.bad : RR D).par1 i j b = .bad := rfl
@[simp] theorem par2_ok : (RR.ok x ρ).par2 i j d = .nx ((ρ.set i d).set j x) := rfl
@[simp] theorem par2_exc : (RR.exc e ρ : RR D).par2 i j d = .exc e ρ := rfl
@[simp] theorem par2_bad : (RR.bad : RR D).par2 i j d = .bad := rfl
@[simp] theorem mPar_eq : mPar i j a b ρ = (a ρ).par1 i j b := rfl
def RR.raise (o : RR (List D)) (er : Err) : Out := match o with
  | .ok _ ρ1 => .exc er ρ1
  | .exc e ρ1 => .exc e ρ1
  | .bad => .bad
@[simp] theorem raise_ok {er : Err} : (RR.ok ds ρ).raise er = .exc er ρ := rfl
@[simp] theorem raise_exc {er : Err} : (RR.exc e ρ : RR (List D)).raise er = .exc e ρ := rfl
@[simp] theorem raise_bad {er : Err} : (RR.bad : RR (List D)).raise er = .bad := rfl
@[simp] theorem mRaise_eq {er : Err} : mRaise er ma ρ = (ma ρ).raise er := rfl
def Out.tryBy (o : Out) (tags : List Nat) (n : Nat) (μh : List Mode) (h : Err → MS) : Out := match o with
  | .exc e ρ1 => if tags.contains e.tag = true then (if errIs e n = true then h e (keep μh ρ1) else .exc e ρ1) else .bad
  | o => o
section
variable {tags : List Nat} {n : Nat} {μh : List Mode} {h : Err → MS}
@[simp] theorem try_nx : (Out.nx ρ).tryBy tags n μh h = .nx ρ := rfl
@[simp] theorem try_ret : (Out.ret d ρ).tryBy tags n μh h = .ret d ρ := rfl
@[simp] theorem try_brk : (Out.brk ρ).tryBy tags n μh h = .brk ρ := rfl
@[simp] theorem try_cnt : (Out.cnt ρ).tryBy tags n μh h = .cnt ρ := rfl
@[simp] theorem try_bad : Out.bad.tryBy tags n μh h = .bad := rfl
@[simp] theorem try_exc : (Out.exc e ρ).tryBy tags n μh h = if tags.contains e.tag = true then (if errIs e n = true then h e (keep μh ρ) else .exc e ρ) else .bad := rfl
@[simp] theorem mTry_eq : mTry tags n μh s1 h ρ = (s1 ρ).tryBy tags n μh h := by unfold mTry; cases s1 ρ <;> rfl
end
/-- walked things -/
def RR.itT (o : RR D) : RR (List D) := o.bind fun d ρ1 => RR.of (match d with | .tup ds => some ds | _ => none) ρ1
@[simp] theorem itT_tup : (RR.ok (.tup ds) ρ).itT = .ok ds ρ := rfl
@[simp] theorem itT_exc : (RR.exc e ρ : RR D).itT = .exc e ρ := rfl
@[simp] theorem itT_bad : (RR.bad : RR D).itT = .bad := rfl
@[simp] theorem mItT_eq : mItT a ρ = (a ρ).itT := rfl
@[simp] theorem items_lst : itemsOf (.lst ds) = some ds := rfl
@[simp] theorem items_scr {ns : List Int} : itemsOf (.scr ns) = some (ns.map .int) := rfl
def RR.forIn' (o : RR (List D)) (g : MB) (s : MS) : Out := match o with
  | .ok ds ρ1 => forL g s ds ρ1
  | .exc e ρ1 => .exc e ρ1
  | .bad => .bad
@[simp] theorem forIn_ok {g : MB} : (RR.ok ds ρ).forIn' g s1 = forL g s1 ds ρ := rfl
@[simp] theorem forIn_exc {g : MB} : (RR.exc e ρ : RR (List D)).forIn' g s1 = .exc e ρ := rfl
@[simp] theorem forIn_bad {g : MB} : (RR.bad : RR (List D)).forIn' g s1 = .bad := rfl
@[simp] theorem mFor_eq {g : MB} : mFor ma g s1 ρ = (ma ρ).forIn' g s1 := rfl
def Out.loop (o : Out) (k : MS) : Out := match o with
  | .nx ρ => k ρ
  | .cnt ρ => k ρ
  | .brk ρ => .nx ρ
  | o => o
@[simp] theorem loop_nx {k : MS} : (Out.nx ρ).loop k = k ρ := rfl
@[simp] theorem loop_cnt {k : MS} : (Out.cnt ρ).loop k = k ρ := rfl
@[simp] theorem loop_brk {k : MS} : (Out.brk ρ).loop k = .nx ρ := rfl
@[simp] theorem loop_ret {k : MS} : (Out.ret d ρ).loop k = .ret d ρ := rfl
@[simp] theorem loop_exc {k : MS} : (Out.exc e ρ).loop k = .exc e ρ := rfl
@[simp] theorem loop_bad {k : MS} : Out.bad.loop k = .bad := rfl
def Out.bindO (o : Option (List D)) (s : MS) : Out := match o with
  | some ρ => s ρ
  | none => .bad
@[simp] theorem bindO_some : Out.bindO (some ρ) s1 = s1 ρ := rfl
@[simp] theorem bindO_none : Out.bindO none s1 = .bad := rfl
@[simp] theorem forL_nil {g : MB} : forL g s1 [] ρ = .nx ρ := rfl
theorem forL_cons {g : MB} : forL g s1 (d :: ds) ρ = (Out.bindO (g d ρ) s1).loop (forL g s1 ds) := by
  show (match g d ρ with | none => Out.bad | some ρ1 => match s1 ρ1 with | .nx ρ2 => forL g s1 ds ρ2 | .cnt ρ2 => forL g s1 ds ρ2 | .brk ρ2 => .nx ρ2 | o => o) = _
  cases g d ρ with
  | none => rfl
  | some ρ1 =>
    show (match s1 ρ1 with | .nx ρ2 => forL g s1 ds ρ2 | .cnt ρ2 => forL g s1 ds ρ2 | .brk ρ2 => Out.nx ρ2 | o => o) = (s1 ρ1).loop (forL g s1 ds)
    cases s1 ρ1 <;> rfl
/-- a loop whose turns leave all as it is -/
theorem forL_same {g : MB} : ∀ {ds : List D}, (∀ d ∈ ds, ∃ ρ1, g d ρ = some ρ1 ∧ (s1 ρ1 = .nx ρ ∨ s1 ρ1 = .cnt ρ)) → forL g s1 ds ρ = .nx ρ
  | [], _ => rfl
  | d :: ds, h => by
    obtain ⟨ρ1, h1, h2⟩ := h d List.mem_cons_self
    rw [forL_cons, h1, bindO_some]
    rcases h2 with h2 | h2 <;> rw [h2] <;> exact forL_same fun d' hd => h d' (List.mem_cons_of_mem _ hd)
@[simp] theorem mWhile_eq {f : List D → Nat} : mWhile f t s1 ρ = whileN t s1 (f ρ) ρ := rfl
def RR.wh (o : RR Bool) (s k : MS) : Out := match o with
  | .ok true ρ1 => (s ρ1).loop k
  | .ok false ρ1 => .nx ρ1
  | .exc e ρ1 => .exc e ρ1
  | .bad => .bad
@[simp] theorem wh_t {k : MS} : (RR.ok true ρ).wh s1 k = (s1 ρ).loop k := rfl
@[simp] theorem wh_f {k : MS} : (RR.ok false ρ).wh s1 k = .nx ρ := rfl
@[simp] theorem wh_exc {k : MS} : (RR.exc e ρ : RR Bool).wh s1 k = .exc e ρ := rfl
@[simp] theorem wh_bad {k : MS} : (RR.bad : RR Bool).wh s1 k = .bad := rfl
theorem whileN_succ {n : Nat} : whileN t s1 (n + 1) ρ = (t ρ).wh s1 (whileN t s1 n) := by
  show (match t ρ with | .ok true ρ1 => (match s1 ρ1 with | .nx ρ2 => whileN t s1 n ρ2 | .cnt ρ2 => whileN t s1 n ρ2 | .brk ρ2 => Out.nx ρ2 | o => o) | .ok false ρ1 => .nx ρ1 | .exc e ρ1 => .exc e ρ1 | .bad => .bad) = _
  cases t ρ with
  | ok x ρ1 =>
    cases x with
    | true =>
      show (match s1 ρ1 with | .nx ρ2 => whileN t s1 n ρ2 | .cnt ρ2 => whileN t s1 n ρ2 | .brk ρ2 => Out.nx ρ2 | o => o) = (s1 ρ1).loop (whileN t s1 n)
      cases s1 ρ1 <;> rfl
    | false => rfl
  | exc _ _ => rfl
  | bad => rfl
end
/-! ### owned lists, comprehensions, chains -/
section
variable {α : Type} {a b c : ME} {ma : MA} {t : MT} {ρ : List D} {d x y : D} {ds es acc : List D} {e : Err} {i : Nat} {f g : D → D → Option Bool}
def asLst : D → Option (List D)
  | .lst ds => some ds
  | _ => none
@[simp] theorem asLst_lst : asLst (.lst ds) = some ds := rfl
@[simp] theorem lstAt_eq : lstAt i ρ = asLst (ρ.getD i .non) := rfl
def Out.app (o : Option (List D)) (i : Nat) (d : D) (ρ : List D) : Out := match o with
  | some ds => if ds.length < 1000000 then .nx (ρ.set i (.lst (ds ++ [d]))) else .bad
  | none => .bad
@[simp] theorem app_some : Out.app (some ds) i d ρ = if ds.length < 1000000 then .nx (ρ.set i (.lst (ds ++ [d]))) else .bad := rfl
def RR.app (o : RR D) (i : Nat) : Out := match o with
  | .ok d ρ1 => Out.app (asLst (ρ1.getD i .non)) i d ρ1
  | .exc e ρ1 => .exc e ρ1
  | .bad => .bad
@[simp] theorem rapp_ok : (RR.ok d ρ).app i = Out.app (asLst (ρ.getD i .non)) i d ρ := rfl
@[simp] theorem rapp_exc : (RR.exc e ρ : RR D).app i = .exc e ρ := rfl
@[simp] theorem rapp_bad : (RR.bad : RR D).app i = .bad := rfl
def Out.app0 (o : Option (List D)) (r : RR D) (i : Nat) : Out := match o with
  | some _ => r.app i
  | none => .bad
@[simp] theorem app0_some {r : RR D} : Out.app0 (some ds) r i = r.app i := rfl
@[simp] theorem mApp_eq : mApp i a ρ = Out.app0 (asLst (ρ.getD i .non)) (a ρ) i := by
  unfold mApp Out.app0
  rw [lstAt_eq]
  cases asLst (ρ.getD i .non) with
  | none => rfl
  | some ds =>
    unfold RR.app Out.app
    cases a ρ with
    | ok d ρ1 => simp only [lstAt_eq] <;> (cases asLst (ρ1.getD i .non) <;> rfl)
    | exc _ _ => rfl
    | bad => rfl
def lenO (o : D) (ρ : List D) : RR D := match o with
  | .lst ds => .ok (.int ds.length) ρ
  | _ => .bad
@[simp] theorem lenO_lst : lenO (.lst ds) ρ = .ok (.int ds.length) ρ := rfl
@[simp] theorem mLenO_eq : mLenO i ρ = lenO (ρ.getD i .non) ρ := rfl
def trO (o : D) (ρ : List D) : RR Bool := match o with
  | .lst ds => .ok (!ds.isEmpty) ρ
  | _ => .bad
@[simp] theorem trO_lst : trO (.lst ds) ρ = .ok (!ds.isEmpty) ρ := rfl
@[simp] theorem mTrO_eq : mTrO i ρ = trO (ρ.getD i .non) ρ := by
  unfold mTrO trO
  rw [lstAt_eq]
  cases ρ.getD i .non <;> rfl
@[simp] theorem mYes_eq : mYes ρ = .ok true ρ := rfl
def RR.lc (o : RR (List D)) (b : MB) (t : MT) (a : ME) (μ : List Mode) : RR D := o.bind fun ds ρ1 => lcL b t a μ ds [] ρ1
@[simp] theorem lc_ok {b : MB} {μ : List Mode} : (RR.ok ds ρ).lc b t a μ = lcL b t a μ ds [] ρ := rfl
@[simp] theorem lc_exc {b : MB} {μ : List Mode} : (RR.exc e ρ : RR (List D)).lc b t a μ = .exc e ρ := rfl
@[simp] theorem lc_bad {b : MB} {μ : List Mode} : (RR.bad : RR (List D)).lc b t a μ = .bad := rfl
@[simp] theorem mLc_eq {b : MB} {μ : List Mode} : mLc ma b t a μ ρ = (ma ρ).lc b t a μ := rfl
@[simp] theorem lcL_nil {b : MB} {μ : List Mode} : lcL b t a μ [] acc ρ = .ok (.lst acc) ρ := rfl
/-- a comprehension over ds: what its turns come to (s: which are taken, v: what is put in) -/
theorem lcL_run {b : MB} {μ : List Mode} (s : D → Bool) (v : D → D) : ∀ (ds acc : List D), (∀ d ∈ ds, ∃ ρ1 ρ2, b d ρ = some ρ1 ∧ t ρ1 = .ok (s d) ρ2 ∧ (s d = false → keep μ ρ2 = ρ) ∧ (s d = true → ∃ ρ3, a ρ2 = .ok (v d) ρ3 ∧ keep μ ρ3 = ρ)) → acc.length + ds.length ≤ 1000000 →
    lcL b t a μ ds acc ρ = .ok (.lst (acc ++ (ds.filter s).map v)) ρ
  | [], acc, _, _ => by simp
  | d :: ds, acc, h, hl => by
    obtain ⟨ρ1, ρ2, h1, h2, h3, h4⟩ := h d List.mem_cons_self
    unfold lcL
    rw [h1]
    simp only [h2]
    cases q : s d with
    | false =>
      simp only
      rw [h3 q, lcL_run s v ds acc (fun d' hd => h d' (List.mem_cons_of_mem _ hd)) (by simp at hl; omega)]
      simp [q]
    | true =>
      obtain ⟨ρ3, h5, h6⟩ := h4 q
      simp only [h5]
      simp only [List.length_cons] at hl
      rw [if_pos (by omega), h6, lcL_run s v ds (acc ++ [v d]) (fun d' hd => h d' (List.mem_cons_of_mem _ hd)) (by simp; omega)]
      simp [q]
/-- .. without a test -/
theorem lcL_map {b : MB} {μ : List Mode} (v : D → D) (ds : List D) (h : ∀ d ∈ ds, ∃ ρ1 ρ3, b d ρ = some ρ1 ∧ a ρ1 = .ok (v d) ρ3 ∧ keep μ ρ3 = ρ) (hl : ds.length ≤ 1000000) :
    lcL b mYes a μ ds [] ρ = .ok (.lst (ds.map v)) ρ := by
  have := lcL_run (t := mYes) (a := a) (b := b) (μ := μ) (ρ := ρ) (fun _ => true) v ds [] (fun d hd => by
    obtain ⟨ρ1, ρ3, h1, h2, h3⟩ := h d hd
    exact ⟨ρ1, ρ1, h1, rfl, (fun z => by cases z), fun _ => ⟨ρ3, h2, h3⟩⟩) (by simpa using hl)
  have e : ds.filter (fun _ => true) = ds := List.filter_eq_self.mpr fun _ _ => rfl
  rw [e] at this
  simpa using this
def RR.sl1 (o : RR D) (f : Option Int → Option Int → D → Option D) (lo hi : MO) : RR D := o.bind fun d ρ1 => (lo ρ1).bind fun l ρ2 => (hi ρ2).bind fun u ρ3 => RR.of (f l u d) ρ3
def RR.sl2 (o : RR (Option Int)) (f : Option Int → Option Int → D → Option D) (d : D) (hi : MO) : RR D := o.bind fun l ρ2 => (hi ρ2).bind fun u ρ3 => RR.of (f l u d) ρ3
def RR.sl3 (o : RR (Option Int)) (f : Option Int → Option Int → D → Option D) (d : D) (l : Option Int) : RR D := o.bind fun u ρ3 => RR.of (f l u d) ρ3
@[simp] theorem sl1_ok {h : Option Int → Option Int → D → Option D} {lo hi : MO} : (RR.ok d ρ).sl1 h lo hi = (lo ρ).sl2 h d hi := rfl
@[simp] theorem sl1_exc {h : Option Int → Option Int → D → Option D} {lo hi : MO} : (RR.exc e ρ : RR D).sl1 h lo hi = .exc e ρ := rfl
@[simp] theorem sl2_ok {h : Option Int → Option Int → D → Option D} {l : Option Int} {hi : MO} : (RR.ok l ρ).sl2 h d hi = (hi ρ).sl3 h d l := rfl
@[simp] theorem sl3_ok {h : Option Int → Option Int → D → Option D} {l u : Option Int} : (RR.ok u ρ).sl3 h d l = RR.of (h l u d) ρ := rfl
@[simp] theorem mSl_eq {h : Option Int → Option Int → D → Option D} {lo hi : MO} : mSl h a lo hi ρ = (a ρ).sl1 h lo hi := rfl
@[simp] theorem mNoPart_eq : mNoPart ρ = .ok none ρ := rfl
def RR.part (o : RR D) : RR (Option Int) := o.bind fun d ρ1 => RR.of (asInt d) ρ1
@[simp] theorem part_ok {k : Int} : (RR.ok (.int k) ρ).part = .ok (some k) ρ := rfl
@[simp] theorem part_exc : (RR.exc e ρ : RR D).part = .exc e ρ := rfl
@[simp] theorem mPart_eq : mPart a ρ = (a ρ).part := rfl
@[simp] theorem fSl_lst {lo hi : Option Int} : fSl lo hi (.lst ds) = some (.lst (cutD ds lo hi)) := rfl
@[simp] theorem fSl_tup {lo hi : Option Int} : fSl lo hi (.tup ds) = some (.tup (cutD ds lo hi)) := rfl
@[simp] theorem fSl_str {lo hi : Option Int} {z : Str} : fSl lo hi (.str z) = if z.length ≤ sizeLine then some (.str (cutS z lo hi)) else none := rfl
@[simp] theorem fSlO_lst {lo hi : Option Int} : fSlO lo hi (.lst ds) = some (.lst (cutD ds lo hi)) := rfl
theorem cutD_to {α : Type} {xs : List α} {k : Nat} : cutD xs none (some (k : Int)) = xs.take k := by
  unfold cutD
  rw [HT.sIx_none, HT.sIx_nat, List.drop_zero, Nat.sub_zero]
  by_cases h : k ≤ xs.length
  · rw [Nat.min_eq_left h]
  · rw [Nat.min_eq_right (by omega), List.take_length, List.take_of_length_le (by omega)]
theorem cutD_from {α : Type} {xs : List α} {k : Nat} : cutD xs (some (k : Int)) none = xs.drop k := by
  unfold cutD
  rw [HT.sIx_none, HT.sIx_nat]
  by_cases h : k ≤ xs.length
  · rw [Nat.min_eq_left h]
    exact List.take_of_length_le (by simp)
  · rw [Nat.min_eq_right (by omega), List.drop_length, List.take_nil, List.drop_eq_nil_of_le (by omega)]
def setO (o : RR D) (i : Nat) (d : D) : Option (List D) := match o with
  | .ok (.int k) ρ1 => (asLst (ρ1.getD i .non)).bind fun ds => (setD ds k d).map fun es => ρ1.set i (.lst es)
  | _ => none
@[simp] theorem setO_ok {k : Int} : setO (.ok (.int k) ρ) i d = (asLst (ρ.getD i .non)).bind fun ds => (setD ds k d).map fun es => ρ.set i (.lst es) := rfl
@[simp] theorem bSetO_eq : bSetO i a d ρ = setO (a ρ) i d := by
  unfold bSetO setO
  cases a ρ with
  | ok y ρ1 =>
    cases y <;> first | rfl | (simp only [lstAt_eq]; cases asLst (ρ1.getD i .non) <;> rfl)
  | exc _ _ => rfl
  | bad => rfl
theorem setD_nat {k : Nat} (h : k < ds.length) : setD ds (k : Int) d = some (ds.set k d) := by
  unfold setD ixN
  simp [h]
def RR.ch1 (o : RR D) (f g : D → D → Option Bool) (b c : ME) : RR Bool := o.bind fun x ρ1 => (b ρ1).bind fun y ρ2 => (RR.of (f x y) ρ2).bind fun k ρ3 => if k = true then (c ρ3).bind fun z ρ4 => RR.of (g y z) ρ4 else .ok false ρ3
def RR.ch2 (o : RR D) (f g : D → D → Option Bool) (x : D) (c : ME) : RR Bool := o.bind fun y ρ2 => (RR.of (f x y) ρ2).bind fun k ρ3 => if k = true then (c ρ3).bind fun z ρ4 => RR.of (g y z) ρ4 else .ok false ρ3
def RR.ch3 (o : RR Bool) (g : D → D → Option Bool) (y : D) (c : ME) : RR Bool := o.bind fun k ρ3 => if k = true then (c ρ3).bind fun z ρ4 => RR.of (g y z) ρ4 else .ok false ρ3
@[simp] theorem ch1_ok : (RR.ok x ρ).ch1 f g b c = (b ρ).ch2 f g x c := rfl
@[simp] theorem ch1_exc : (RR.exc e ρ : RR D).ch1 f g b c = .exc e ρ := rfl
@[simp] theorem ch1_bad : (RR.bad : RR D).ch1 f g b c = .bad := rfl
@[simp] theorem ch2_ok : (RR.ok y ρ).ch2 f g x c = (RR.of (f x y) ρ : RR Bool).ch3 g y c := rfl
@[simp] theorem ch2_exc : (RR.exc e ρ : RR D).ch2 f g x c = .exc e ρ := rfl
@[simp] theorem ch2_bad : (RR.bad : RR D).ch2 f g x c = .bad := rfl
@[simp] theorem ch3_t : (RR.ok true ρ : RR Bool).ch3 g y c = (c ρ).op2 g y := rfl
@[simp] theorem ch3_f : (RR.ok false ρ : RR Bool).ch3 g y c = .ok false ρ := rfl
@[simp] theorem ch3_exc : (RR.exc e ρ : RR Bool).ch3 g y c = .exc e ρ := rfl
@[simp] theorem ch3_bad : (RR.bad : RR Bool).ch3 g y c = .bad := rfl
theorem ch3_ite {p : Bool} : (RR.ok p ρ : RR Bool).ch3 g y c = if p = true then (c ρ).op2 g y else .ok false ρ := by cases p <;> rfl
@[simp] theorem mChain_eq : mChain f g a b c ρ = (a ρ).ch1 f g b c := rfl
@[simp] theorem mChainV_eq : mChainV f g a b c ρ = ((a ρ).ch1 f g b c).bl := rfl
@[simp] theorem rng1_eq {n : Int} : rng1 [.int n] = if -1000000 ≤ n ∧ n ≤ 1000000 then some (ilist 0 n.toNat) else none := rfl
@[simp] theorem rng2_eq {n m : Int} : rng2 [.int n, .int m] = if -1000000 ≤ n ∧ n ≤ 1000000 ∧ -1000000 ≤ m ∧ m ≤ 1000000 then some (ilist n (m - n).toNat) else none := rfl
theorem ilist_from {lo : Int} {n : Nat} : ilist lo n = (List.range' 0 n).map fun (i : Nat) => D.int (lo + (i : Int)) := by
  unfold ilist
  rw [List.range_eq_range']
theorem forL_range_aux {i : Nat} {s1 : MS} (ρ : Nat → List D) : ∀ (n j : Nat), (∀ k, j ≤ k → k < j + n → s1 ((ρ k).set i (.int (k : Int))) = .nx (ρ (k + 1)) ∨ s1 ((ρ k).set i (.int (k : Int))) = .cnt (ρ (k + 1))) →
    forL (bName i) s1 ((List.range' j n).map fun (k : Nat) => D.int (0 + (k : Int))) (ρ j) = .nx (ρ (j + n))
  | 0, j, _ => rfl
  | n + 1, j, h => by
    rw [List.range'_succ, List.map_cons, forL_cons, bName_eq, bindO_some, Int.zero_add]
    have ih := forL_range_aux ρ n (j + 1) fun k h1 h2 => h k (by omega) (by omega)
    rw [show j + 1 + n = j + (n + 1) by omega] at ih
    rcases h j (Nat.le_refl j) (by omega) with e | e
    · rw [e, loop_nx]; exact ih
    · rw [e, loop_cnt]; exact ih
/-- for i in range(n): the slots behind each turn -/
theorem forL_range {i : Nat} {s1 : MS} (ρ : Nat → List D) (n : Nat) (h : ∀ k, k < n → s1 ((ρ k).set i (.int (k : Int))) = .nx (ρ (k + 1)) ∨ s1 ((ρ k).set i (.int (k : Int))) = .cnt (ρ (k + 1))) : forL (bName i) s1 (ilist 0 n) (ρ 0) = .nx (ρ n) := by
  have := forL_range_aux (s1 := s1) (i := i) ρ n 0 fun k _ h2 => h k (by omega)
  rw [Nat.zero_add] at this
  rw [ilist_from]
  exact this
theorem mem_ilist {lo : Int} {n : Nat} {d : D} (h : d ∈ ilist lo n) : ∃ i : Nat, i < n ∧ d = .int (lo + i) := by
  unfold ilist at h
  obtain ⟨i, hi, e⟩ := List.mem_map.mp h
  exact ⟨i, List.mem_range.mp hi, e.symm⟩
end
/-! ### values -/
section
variable {i j : Int} {a b : Str} {p q : Bool} {ds es : List D} {x y : D}
@[simp] theorem fInt_eq {g : Int → Int → Int} : fInt g (.int i) (.int j) = some (.int (g i j)) := rfl
@[simp] theorem fIntC_eq {c : Int → Int → Prop} [∀ i j, Decidable (c i j)] {g : Int → Int → Int} : fIntC c g (.int i) (.int j) = if c i j then some (.int (g i j)) else none := rfl
@[simp] theorem fAdd_int : fAdd (.int i) (.int j) = some (.int (i + j)) := rfl
@[simp] theorem fAdd_str : fAdd (.str a) (.str b) = if a.length + b.length ≤ sizeLine then some (.str (a ++ b)) else none := rfl
@[simp] theorem fAdd_tup : fAdd (.tup ds) (.tup es) = if ds.isEmpty = false ∧ es.isEmpty = false ∧ ds.length + es.length ≤ sizeLine then some (.tup (ds ++ es)) else none := rfl
@[simp] theorem fAdd_lst : fAdd (.lst ds) (.lst es) = if ds.length + es.length ≤ sizeLine then some (.lst (ds ++ es)) else none := rfl
@[simp] theorem fNeg_eq : fNeg (.int i) = some (.int (-i)) := rfl
@[simp] theorem fNotV_eq : fNotV (.bl p) = some (.bl (!p)) := rfl
@[simp] theorem fLt_int : fLt (.int i) (.int j) = some (decide (i < j)) := rfl
@[simp] theorem fLe_int : fLe (.int i) (.int j) = some (decide (i ≤ j)) := rfl
@[simp] theorem fGt_int : fGt (.int i) (.int j) = some (decide (j < i)) := rfl
@[simp] theorem fGe_int : fGe (.int i) (.int j) = some (decide (j ≤ i)) := rfl
@[simp] theorem fLt_str : fLt (.str a) (.str b) = some (decide (a.cps.toList < b.cps.toList)) := rfl
@[simp] theorem fEq_int : fEq (.int i) (.int j) = some (decide (i = j)) := rfl
@[simp] theorem fEq_str : fEq (.str a) (.str b) = some (decide (a = b)) := rfl
@[simp] theorem fEq_bl : fEq (.bl p) (.bl q) = some (decide (p = q)) := rfl
@[simp] theorem fIsB_bl : fIsB (.bl p) (.bl q) = some (decide (p = q)) := rfl
@[simp] theorem fNotB_bl : fNotB (.bl p) (.bl q) = some (!decide (p = q)) := rfl
@[simp] theorem fNe_int : fNe (.int i) (.int j) = some (!decide (i = j)) := rfl
@[simp] theorem fNe_str : fNe (.str a) (.str b) = some (!decide (a = b)) := rfl
@[simp] theorem fNe_bl : fNe (.bl p) (.bl q) = some (!decide (p = q)) := rfl
@[simp] theorem truth_bl : truth (.bl p) = some p := rfl
@[simp] theorem truth_int : truth (.int i) = some (i != 0) := rfl
@[simp] theorem truth_lst : truth (.lst ds) = some (!ds.isEmpty) := rfl
@[simp] theorem truth_scr {ns : List Int} : truth (.scr ns) = some (!ns.isEmpty) := rfl
@[simp] theorem truth_non : truth .non = some false := rfl
@[simp] theorem fLen_lst : fLen [.lst ds] = some (.int ds.length) := rfl
@[simp] theorem fLen_tup : fLen [.tup ds] = some (.int ds.length) := rfl
@[simp] theorem fLen_scr {ns : List Int} : fLen [.scr ns] = some (.int ns.length) := rfl
@[simp] theorem fLen_str : fLen [.str a] = if a.length ≤ sizeLine then some (.int a.length) else none := rfl
@[simp] theorem fAbs_eq : fAbs [.int i] = some (.int i.natAbs) := by
  show some (D.int (if i < 0 then -i else i)) = _
  congr 2
  split <;> omega
@[simp] theorem fIntOf_int : fIntOf [.int i] = some (.int i) := rfl
@[simp] theorem fIntOf_bl : fIntOf [.bl p] = some (.int (if p then 1 else 0)) := rfl
@[simp] theorem fIx_lst : fIx (.lst ds) (.int i) = atI ds i := rfl
@[simp] theorem fIx_tup : fIx (.tup ds) (.int i) = atI ds i := rfl
@[simp] theorem fIx_scr {ns : List Int} : fIx (.scr ns) (.int i) = (atI ns i).map .int := rfl
theorem atI_nat' {α : Type} {xs : List α} {n : Nat} : atI xs (n : Int) = xs[n]? := by
  unfold atI ixN
  by_cases h : (n : Int) < xs.length
  · rw [if_pos (by omega), if_pos h]
    simp
  · rw [if_pos (by omega), if_neg h]
    simp only [Option.bind_none]
    exact (List.getElem?_eq_none (by omega)).symm
@[simp] theorem atI_zero {α : Type} {x : α} {xs : List α} : atI (x :: xs) 0 = some x := atI_nat' (n := 0)
@[simp] theorem atI_one {α : Type} {x y : α} {xs : List α} : atI (x :: y :: xs) 1 = some y := atI_nat' (n := 1)
@[simp] theorem atI_two {α : Type} {x y z : α} {xs : List α} : atI (x :: y :: z :: xs) 2 = some z := atI_nat' (n := 2)
@[simp] theorem atI_three {α : Type} {x y z u : α} {xs : List α} : atI (x :: y :: z :: u :: xs) 3 = some u := atI_nat' (n := 3)
@[simp] theorem atI_four {α : Type} {x y z u v : α} {xs : List α} : atI (x :: y :: z :: u :: v :: xs) 4 = some v := atI_nat' (n := 4)
theorem kit_bool_bool : kitB "bool" "bool" = some true := by decide +kernel
theorem kit_int_bool : kitB "int" "bool" = some false := by decide +kernel
theorem kit_int_int : kitB "int" "int" = some true := by decide +kernel
theorem kit_bool_int : kitB "bool" "int" = some true := by decide +kernel
theorem kit_tuple_tuple : kitB "tuple" "tuple" = some true := by decide +kernel
theorem kit_list_list : kitB "list" "list" = some true := by decide +kernel
theorem kit_non_tuple : kitB "NoneType" "tuple" = some false := by decide +kernel
theorem kit_str_int : kitB "str" "int" = some false := by decide +kernel
theorem kit_non_int : kitB "NoneType" "int" = some false := by decide +kernel
theorem kit_tuple_int : kitB "tuple" "int" = some false := by decide +kernel
theorem kit_list_int : kitB "list" "int" = some false := by decide +kernel
theorem kit_dict_int : kitB "dict" "int" = some false := by decide +kernel
@[simp] theorem isi_bl_bool : fIsi "bool" (.bl p) = some (.bl true) := by unfold fIsi tyName; simp [kit_bool_bool]
@[simp] theorem isi_int_bool : fIsi "bool" (.int i) = some (.bl false) := by unfold fIsi tyName; simp [kit_int_bool]
@[simp] theorem isi_int_int : fIsi "int" (.int i) = some (.bl true) := by unfold fIsi tyName; simp [kit_int_int]
@[simp] theorem isi_bl_int : fIsi "int" (.bl p) = some (.bl true) := by unfold fIsi tyName; simp [kit_bool_int]
@[simp] theorem isi_tup_tuple : fIsi "tuple" (.tup ds) = some (.bl true) := by unfold fIsi tyName; simp [kit_tuple_tuple]
@[simp] theorem isi_lst_list : fIsi "list" (.lst ds) = some (.bl true) := by unfold fIsi tyName; simp [kit_list_list]
@[simp] theorem isi_str_int : fIsi "int" (.str a) = some (.bl false) := by unfold fIsi tyName; simp [kit_str_int]
@[simp] theorem isi_non_int : fIsi "int" .non = some (.bl false) := by unfold fIsi tyName; simp [kit_non_int]
@[simp] theorem isi_tup_int : fIsi "int" (.tup ds) = some (.bl false) := by unfold fIsi tyName; simp [kit_tuple_int]
@[simp] theorem isi_dK_int {kvs : List (Key × D)} : fIsi "int" (.dK kvs) = some (.bl false) := by unfold fIsi tyName; simp [kit_dict_int]
@[simp] theorem isi_lst_int : fIsi "int" (.lst ds) = some (.bl false) := by unfold fIsi tyName; simp [kit_list_int]
end
/-! ### sizes of ints -/
theorem log2_lt {n a : Nat} (h0 : 0 < a) (h : n < 2 ^ a) : n.log2 < a := PySem.Flt.log2_lt_of h0 h
theorem mulx {i j : Int} {a b : Nat} (ha : i.natAbs < 2 ^ a) (hb : j.natAbs < 2 ^ b) (h0 : 0 < a := by decide) (h1 : 0 < b := by decide) (h : a + b ≤ 134000000 := by decide) : CMulX i j := by
  have x := log2_lt h0 ha
  have y := log2_lt h1 hb
  unfold CMulX
  omega
theorem divx {i j : Int} {b : Nat} (h : j ≠ 0) (hb : j.natAbs < 2 ^ b) (h0 : 0 < b := by decide) (h9 : b ≤ 9000 := by decide) : CDivX i j := ⟨h, PyProof.noPylong_of_log2 (Nat.lt_of_lt_of_le (log2_lt h0 hb) h9)⟩
theorem divx2 {i j : Int} (h : j ≠ 0) (hb : i.natAbs < 2 ^ 13500) : CDivX i j := by
  refine ⟨h, ?_⟩
  have hl : i.natAbs.log2 < 13500 := log2_lt (by decide) hb
  have key : ∀ n : Nat, n < 451 → ∀ m : Nat, (decide (m > 300) && decide (n > m + 150)) = false := fun n hn m => by
    by_cases h : m > 300
    · rw [decide_eq_false (show ¬ n > m + 150 by omega), Bool.and_false]
    · rw [decide_eq_false h, Bool.false_and]
  refine key (if i == 0 then 0 else i.natAbs.log2 / 30 + 1) ?_ (if j == 0 then 0 else j.natAbs.log2 / 30 + 1)
  split <;> omega
end MR

set_option Elab.async false
set_option linter.all false
set_option maxRecDepth 100000
/-! RV: mirrors that many laws share (printed by shared.py). -/
namespace RV
open PySem L2 MR
def b__law_cell : MS :=
  (mSeq (mIf (mCmpT fLt (mVar 1) (mCB fLen (mCons (mVar 0) mNil)))
  (mRet (mCB fIntOf (mCons (mOp fIx (mVar 0) (mVar 1)) mNil)))
  (mKeep [.x, .d] mNext))
  (mRet (mOp fAdd (mOp (fIntC CMulX (· * ·)) (mC (.int 13)) (mVar 1)) (mC (.int 2)))))
def m__law_cell : MP := mDef .d 0 b__law_cell
def b__law_number : MS :=
  (mRet (mOp fIx (mLst (mCons (mOp (fInt (· - ·)) (mOp (fIntC CModX Int.fmod) (mOp (fIntC CDivX Int.fdiv) (mVar 0) (mC (.int 4))) (mC (.int 19))) (mC (.int 9))) (mCons (mOp (fInt (· - ·)) (mOp (fIntC CModX Int.fmod) (mOp (fIntC CDivX Int.fdiv) (mVar 0) (mC (.int 4))) (mC (.int 3000))) (mC (.int 1500))) (mCons (mOp fAdd (mOp (fIntC CPow fun i j => i ^ j.toNat) (mC (.int 10)) (mC (.int 14))) (mOp (fIntC CModX Int.fmod) (mOp (fIntC CDivX Int.fdiv) (mVar 0) (mC (.int 4))) (mC (.int 777)))) (mCons (mOp (fInt (· - ·)) (mOp (fInt (· - ·)) (mC (.int 0)) (mOp (fIntC CPow fun i j => i ^ j.toNat) (mC (.int 10)) (mC (.int 14)))) (mOp (fIntC CModX Int.fmod) (mOp (fIntC CDivX Int.fdiv) (mVar 0) (mC (.int 4))) (mC (.int 777)))) mNil))))) (mOp (fIntC CModX Int.fmod) (mVar 0) (mC (.int 4)))))
def m__law_number : MP := mDef .d 0 b__law_number
def b__law_low_L0 : MS :=
  (mPar 2 3 (mVar 3) (mOp (fIntC CModX Int.fmod) (mCB fIntOf (mCons (mVar 2) mNil)) (mVar 3)))
def b__law_low : MS :=
  (mSeq (mAsg 2 (mCB fAbs (mCons (mVar 0) mNil)))
  (mSeq (mAsg 3 (mCB fAbs (mCons (mVar 1) mNil)))
  (mSeq (mWhile (fun ρ => (ρ.getD 3 .non).nat + 1) (mCmpT fGt (mVar 3) (mC (.int 0))) b__law_low_L0)
  (mSeq (mIf (mCmpT fLt (mVar 1) (mC (.int 0)))
  (mRet (mTup (mCons (mOp (fInt (· - ·)) (mC (.int 0)) (mOp (fIntC CDivX Int.fdiv) (mVar 0) (mVar 2))) (mCons (mOp (fInt (· - ·)) (mC (.int 0)) (mOp (fIntC CDivX Int.fdiv) (mVar 1) (mVar 2))) mNil))))
  (mKeep [.d, .d, .d, .x] mNext))
  (mRet (mTup (mCons (mOp (fIntC CDivX Int.fdiv) (mVar 0) (mVar 2)) (mCons (mOp (fIntC CDivX Int.fdiv) (mVar 1) (mVar 2)) mNil))))))))
def m__law_low : MP := mDef .d 2 b__law_low
def b__law_ratio : MS :=
  (mRet (mCall RV.m__law_low [] (mCons (mCall RV.m__law_number [] (mCons (mOp (fIntC CDivX Int.fdiv) (mVar 0) (mC (.int 3))) mNil)) (mCons (mOp fAdd (mC (.int 1)) (mCB fAbs (mCons (mCall RV.m__law_number [] (mCons (mOp (fIntC CDivX Int.fdiv) (mVar 0) (mC (.int 8))) mNil)) mNil))) mNil))))
def m__law_ratio : MP := mDef .d 0 b__law_ratio
def b_is_integer : MS :=
  (mRet (mAndV (mUn (fIsi "int") (mVar 0)) (mUn fNotV (mUn (fIsi "bool") (mVar 0)))))
def m_is_integer : MP := mDef .d 0 b_is_integer
def b_common_divisor_L0 : MS :=
  (mPar 0 1 (mVar 1) (mOp (fIntC CModX Int.fmod) (mVar 0) (mVar 1)))
def b_common_divisor : MS :=
  (mSeq (mWhile (fun ρ => (ρ.getD 1 .non).nat + 1) (mCmpT fNe (mVar 1) (mC (.int 0))) b_common_divisor_L0)
  (mRet (mCB fAbs (mCons (mVar 0) mNil))))
def m_common_divisor : MP := mDef .d 0 b_common_divisor
def b_ratio : MS :=
  (mSeq (mIf (mOr (mNot (mTr (mCall RV.m_is_integer [] (mCons (mVar 0) mNil)))) (mOr (mNot (mTr (mCall RV.m_is_integer [] (mCons (mVar 1) mNil)))) (mCmpT fLt (mVar 1) (mC (.int 1)))))
  (mRaise .ratio (mCons (mC (.str (Str.ofString "ratio"))) mNil))
  mNext)
  (mSeq (mAsg 2 (mCall RV.m_common_divisor [] (mCons (mVar 0) (mCons (mVar 1) mNil))))
  (mRet (mTup (mCons (mOp (fIntC CDivX Int.fdiv) (mVar 0) (mVar 2)) (mCons (mOp (fIntC CDivX Int.fdiv) (mVar 1) (mVar 2)) mNil))))))
def m_ratio : MP := mDef .d 1 b_ratio
def b_over : MS :=
  (mSeq (mIf (mCmpT fEq (mOp fIx (mVar 1) (mC (.int 0))) (mC (.int 0)))
  (mRaise .ratio (mCons (mC (.str (Str.ofString "quotient by 0"))) mNil))
  mNext)
  (mSeq (mAsg 2 (mOp (fIntC CMulX (· * ·)) (mOp fIx (mVar 0) (mC (.int 0))) (mOp fIx (mVar 1) (mC (.int 1)))))
  (mSeq (mAsg 3 (mOp (fIntC CMulX (· * ·)) (mOp fIx (mVar 0) (mC (.int 1))) (mOp fIx (mVar 1) (mC (.int 0)))))
  (mSeq (mIf (mCmpT fLt (mVar 3) (mC (.int 0)))
  (mKeep [.x, .x, .d, .d] (mSeq (mAsg 2 (mUn fNeg (mVar 2)))
  (mAsg 3 (mUn fNeg (mVar 3)))))
  (mKeep [.x, .x, .d, .d] mNext))
  (mRet (mCall RV.m_ratio [] (mCons (mVar 2) (mCons (mVar 3) mNil))))))))
def m_over : MP := mDef .d 2 b_over
def b_sub : MS :=
  (mRet (mCall RV.m_ratio [] (mCons (mOp (fInt (· - ·)) (mOp (fIntC CMulX (· * ·)) (mOp fIx (mVar 0) (mC (.int 0))) (mOp fIx (mVar 1) (mC (.int 1)))) (mOp (fIntC CMulX (· * ·)) (mOp fIx (mVar 1) (mC (.int 0))) (mOp fIx (mVar 0) (mC (.int 1))))) (mCons (mOp (fIntC CMulX (· * ·)) (mOp fIx (mVar 0) (mC (.int 1))) (mOp fIx (mVar 1) (mC (.int 1)))) mNil))))
def m_sub : MP := mDef .d 0 b_sub
def b_add : MS :=
  (mRet (mCall RV.m_ratio [] (mCons (mOp fAdd (mOp (fIntC CMulX (· * ·)) (mOp fIx (mVar 0) (mC (.int 0))) (mOp fIx (mVar 1) (mC (.int 1)))) (mOp (fIntC CMulX (· * ·)) (mOp fIx (mVar 1) (mC (.int 0))) (mOp fIx (mVar 0) (mC (.int 1))))) (mCons (mOp (fIntC CMulX (· * ·)) (mOp fIx (mVar 0) (mC (.int 1))) (mOp fIx (mVar 1) (mC (.int 1)))) mNil))))
def m_add : MP := mDef .d 0 b_add
def b_times : MS :=
  (mRet (mCall RV.m_ratio [] (mCons (mOp (fIntC CMulX (· * ·)) (mOp fIx (mVar 0) (mC (.int 0))) (mOp fIx (mVar 1) (mC (.int 0)))) (mCons (mOp (fIntC CMulX (· * ·)) (mOp fIx (mVar 0) (mC (.int 1))) (mOp fIx (mVar 1) (mC (.int 1)))) mNil))))
def m_times : MP := mDef .d 0 b_times
def b__law_is_ratio_L0 : MS :=
  (mIf (mOr (mNot (mTr (mUn (fIsi "int") (mVar 1)))) (mTr (mUn (fIsi "bool") (mVar 1))))
  (mRet (mC (.bl false)))
  (mKeep [.d, .x] mNext))
def b__law_is_ratio : MS :=
  (mSeq (mIf (mOr (mNot (mTr (mUn (fIsi "tuple") (mVar 0)))) (mCmpT fNe (mCB fLen (mCons (mVar 0) mNil)) (mC (.int 2))))
  (mRet (mC (.bl false)))
  mNext)
  (mSeq (mFor (mItT (mVar 0)) (bName 1) b__law_is_ratio_L0)
  (mRet (mAndV (mCmp fGe (mOp fIx (mVar 0) (mC (.int 1))) (mC (.int 1))) (mCmp fEq (mCall RV.m__law_low [] (mCons (mOp fIx (mVar 0) (mC (.int 0))) (mCons (mOp fIx (mVar 0) (mC (.int 1))) mNil))) (mVar 0))))))
def m__law_is_ratio : MP := mDef .d 1 b__law_is_ratio
def b_less : MS :=
  (mRet (mCmp fLt (mOp (fIntC CMulX (· * ·)) (mOp fIx (mVar 0) (mC (.int 0))) (mOp fIx (mVar 1) (mC (.int 1)))) (mOp (fIntC CMulX (· * ·)) (mOp fIx (mVar 1) (mC (.int 0))) (mOp fIx (mVar 0) (mC (.int 1))))))
def m_less : MP := mDef .d 0 b_less
def b_at_most : MS :=
  (mRet (mCmp fLe (mOp (fIntC CMulX (· * ·)) (mOp fIx (mVar 0) (mC (.int 0))) (mOp fIx (mVar 1) (mC (.int 1)))) (mOp (fIntC CMulX (· * ·)) (mOp fIx (mVar 1) (mC (.int 0))) (mOp fIx (mVar 0) (mC (.int 1))))))
def m_at_most : MP := mDef .d 0 b_at_most
def b_sign : MS :=
  (mRet (mOp (fInt (· - ·)) (mCB fIntOf (mCons (mCmp fGt (mOp fIx (mVar 0) (mC (.int 0))) (mC (.int 0))) mNil)) (mCB fIntOf (mCons (mCmp fLt (mOp fIx (mVar 0) (mC (.int 0))) (mC (.int 0))) mNil))))
def m_sign : MP := mDef .d 0 b_sign
def b__law_small : MS :=
  (mRet (mCall RV.m__law_low [] (mCons (mOp (fInt (· - ·)) (mOp (fIntC CModX Int.fmod) (mVar 0) (mC (.int 13))) (mC (.int 6))) (mCons (mOp fAdd (mC (.int 1)) (mOp (fIntC CModX Int.fmod) (mOp (fIntC CDivX Int.fdiv) (mVar 0) (mC (.int 13))) (mOp fIx (mLst (mCons (mC (.int 1)) (mCons (mC (.int 4)) (mCons (mC (.int 9)) mNil)))) (mOp (fIntC CModX Int.fmod) (mOp (fIntC CDivX Int.fdiv) (mVar 0) (mC (.int 60))) (mC (.int 3)))))) mNil))))
def m__law_small : MP := mDef .d 0 b__law_small
def b_product_L1 : MS :=
  (mKeep [.d, .d, .o, .d, .d, .x, .x] (mAsg 4 (mCall RV.m_add [] (mCons (mVar 4) (mCons (mCall RV.m_times [] (mCons (mVar 5) (mCons (mVar 6) mNil))) mNil)))))
def b_product_L0 : MS :=
  (mKeep [.d, .d, .o, .x, .x, .x, .x] (mSeq (mAsg 4 (mC (.tup [(.int 0), (.int 1)])))
  (mSeq (mFor (mRng zip2 (mCons (mVar 3) (mCons (mVar 1) mNil))) (bTup 2 (bCons (bName 5) (bCons (bName 6) bNil))) b_product_L1)
  (mApp 2 (mVar 4)))))
def b_product : MS :=
  (mSeq (mAsg 2 (mLst mNil))
  (mSeq (mFor (mItL (mVar 0)) (bName 3) b_product_L0)
  (mRetO 2)))
def m_product : MP := mDef .o 5 b_product
def b__law_sum_L0 : MS :=
  (mKeep [.d, .d, .d, .x] (mSeq (mAsg 1 (mOp fAdd (mOp (fIntC CMulX (· * ·)) (mVar 1) (mOp fIx (mVar 3) (mC (.int 1)))) (mOp (fIntC CMulX (· * ·)) (mOp fIx (mVar 3) (mC (.int 0))) (mVar 2))))
  (mAsg 2 (mOp (fIntC CMulX (· * ·)) (mVar 2) (mOp fIx (mVar 3) (mC (.int 1)))))))
def b__law_sum : MS :=
  (mSeq (mAsg 1 (mC (.int 0)))
  (mSeq (mAsg 2 (mC (.int 1)))
  (mSeq (mFor (mItL (mVar 0)) (bName 3) b__law_sum_L0)
  (mRet (mCall RV.m__law_low [] (mCons (mVar 1) (mCons (mVar 2) mNil)))))))
def m__law_sum : MP := mDef .d 3 b__law_sum
def b__law_times : MS :=
  (mRet (mCall RV.m__law_low [] (mCons (mOp (fIntC CMulX (· * ·)) (mOp fIx (mVar 0) (mC (.int 0))) (mOp fIx (mVar 1) (mC (.int 0)))) (mCons (mOp (fIntC CMulX (· * ·)) (mOp fIx (mVar 0) (mC (.int 1))) (mOp fIx (mVar 1) (mC (.int 1)))) mNil))))
def m__law_times : MP := mDef .d 0 b__law_times
def b__law_product_C1e : ME :=
  (mCall RV.m__law_times [] (mCons (mOp fIx (mVar 2) (mVar 3)) (mCons (mOp fIx (mVar 1) (mVar 3)) mNil)))
def b__law_product_C1 : ME :=
  (mLc (mRng rng1 (mCons (mCB fLen (mCons (mVar 1) mNil)) mNil)) (bName 3) mYes b__law_product_C1e [.d, .d, .d, .x])
def b__law_product_C0e : ME :=
  (mCall RV.m__law_sum [] (mCons b__law_product_C1 mNil))
def b__law_product_C0 : ME :=
  (mLc (mItL (mVar 0)) (bName 2) mYes b__law_product_C0e [.d, .d, .x, .x])
def b__law_product : MS :=
  (mRet b__law_product_C0)
def m__law_product : MP := mDef .o 2 b__law_product
def b_size : MS :=
  (mRet (mTup (mCons (mCB fAbs (mCons (mOp fIx (mVar 0) (mC (.int 0))) mNil)) (mCons (mOp fIx (mVar 0) (mC (.int 1))) mNil))))
def m_size : MP := mDef .d 0 b_size
def b_is_dominant_L1 : MS :=
  (mIf (mCmpT fNe (mVar 4) (mVar 1))
  (mKeep [.d, .d, .d, .d, .x, .x] (mAsg 3 (mCall RV.m_add [] (mCons (mVar 3) (mCons (mCall RV.m_size [] (mCons (mVar 5) mNil)) mNil)))))
  (mKeep [.d, .d, .d, .d, .x, .x] mNext))
def b_is_dominant_L0 : MS :=
  (mSeq (mAsg 3 (mC (.tup [(.int 0), (.int 1)])))
  (mSeq (mFor (mRng enum1 (mCons (mVar 2) mNil)) (bTup 2 (bCons (bName 4) (bCons (bName 5) bNil))) b_is_dominant_L1)
  (mIf (mNot (mTr (mCall RV.m_less [] (mCons (mVar 3) (mCons (mCall RV.m_size [] (mCons (mOp fIx (mVar 2) (mVar 1)) mNil)) mNil)))))
  (mRet (mC (.bl false)))
  (mKeep [.d, .x, .x, .x, .x, .x] mNext))))
def b_is_dominant : MS :=
  (mSeq (mFor (mRng enum1 (mCons (mVar 0) mNil)) (bTup 2 (bCons (bName 1) (bCons (bName 2) bNil))) b_is_dominant_L0)
  (mRet (mC (.bl true))))
def m_is_dominant : MP := mDef .d 5 b_is_dominant
def b_without_column_C0e : ME :=
  (mCall RV.m_sub [] (mCons (mVar 4) (mCons (mCall RV.m_times [] (mCons (mVar 3) (mCons (mVar 5) mNil))) mNil)))
def b_without_column_C0 : ME :=
  (mLc (mRng zip2 (mCons (mVar 0) (mCons (mVar 1) mNil))) (bTup 2 (bCons (bName 4) (bCons (bName 5) bNil))) mYes b_without_column_C0e [.d, .d, .d, .d, .x, .x])
def b_without_column : MS :=
  (mSeq (mAsg 3 (mCall RV.m_over [] (mCons (mOp fIx (mVar 0) (mVar 2)) (mCons (mOp fIx (mVar 1) (mVar 2)) mNil))))
  (mRet b_without_column_C0))
def m_without_column : MP := mDef .o 3 b_without_column
def b__law_rows_C0e : ME :=
  (mCall RV.m__law_small [] (mCons (mCall RV.m__law_cell [] (mCons (mVar 0) (mCons (mOp fAdd (mOp fAdd (mVar 1) (mOp (fIntC CMulX (· * ·)) (mVar 2) (mVar 4))) (mVar 5)) mNil))) mNil))
def b__law_rows_C0 : ME :=
  (mLc (mRng rng1 (mCons (mVar 2) mNil)) (bName 5) mYes b__law_rows_C0e [.d, .d, .d, .o, .d, .x])
def b__law_rows_L0 : MS :=
  (mKeep [.d, .d, .d, .o, .x, .x] (mApp 3 b__law_rows_C0))
def b__law_rows : MS :=
  (mSeq (mAsg 3 (mLst mNil))
  (mSeq (mFor (mRng rng1 (mCons (mVar 2) mNil)) (bName 4) b__law_rows_L0)
  (mRetO 3)))
def m__law_rows : MP := mDef .o 3 b__law_rows
def b_solve_C0e : ME :=
  (mOp fAdd (mCB fListOf (mCons (mVar 6) mNil)) (mLst (mCons (mVar 7) mNil)))
def b_solve_C0 : ME :=
  (mLc (mRng zip2 (mCons (mVar 0) (mCons (mVar 1) mNil))) (bTup 2 (bCons (bName 6) (bCons (bName 7) bNil))) mYes b_solve_C0e [.d, .d, .x, .x, .x, .x, .x, .x])
def b_solve_L1 : MS :=
  (mAsg 4 (mOp fAdd (mVar 4) (mC (.int 1))))
def b_solve_L2 : MS :=
  (mIf (mCmpT fNe (mVar 5) (mVar 3))
  (mKeep [.x, .x, .o, .d, .x, .x, .x, .x] (mAsgT (bSetO 2 (mVar 5)) (mCall RV.m_without_column [] (mCons (mIxO 2 (mVar 5)) (mCons (mIxO 2 (mVar 3)) (mCons (mVar 3) mNil))))))
  (mKeep [.x, .x, .o, .d, .x, .x, .x, .x] mNext))
def b_solve_L0 : MS :=
  (mKeep [.x, .x, .o, .x, .x, .x, .x, .x] (mSeq (mAsg 4 (mVar 3))
  (mSeq (mWhile (fun ρ => (ρ.getD 2 .non).size + 1) (mAnd (mCmpT fLt (mVar 4) (mLenO 2)) (mCmpT fEq (mOp fIx (mIxO 2 (mVar 4)) (mVar 3)) (mC (.tup [(.int 0), (.int 1)])))) b_solve_L1)
  (mSeq (mIf (mCmpT fEq (mVar 4) (mLenO 2))
  (mRaise .singular (mCons (mC (.str (Str.ofString "equations"))) mNil))
  mNext)
  (mSeq (mAsgT (bTup 2 (bCons (bSetO 2 (mVar 3)) (bCons (bSetO 2 (mVar 4)) bNil))) (mTup (mCons (mIxO 2 (mVar 4)) (mCons (mIxO 2 (mVar 3)) mNil))))
  (mKeep0 [.x, .x, .o, .d, .x, .x, .x, .x] (mFor (mRng rng1 (mCons (mLenO 2) mNil)) (bName 5) b_solve_L2)))))))
def b_solve_C1e : ME :=
  (mCall RV.m_over [] (mCons (mOp fIx (mVar 6) (mUn fNeg (mC (.int 1)))) (mCons (mOp fIx (mVar 6) (mVar 3)) mNil)))
def b_solve_C1 : ME :=
  (mLc (mRng enum1 (mCons (mVar 2) mNil)) (bTup 2 (bCons (bName 3) (bCons (bName 6) bNil))) mYes b_solve_C1e [.x, .x, .d, .x, .x, .x, .x, .x])
def b_solve : MS :=
  (mSeq (mAsg 2 b_solve_C0)
  (mSeq (mKeep0 [.x, .x, .o, .x, .x, .x, .x, .x] (mFor (mRng rng1 (mCons (mLenO 2) mNil)) (bName 3) b_solve_L0))
  (mRet b_solve_C1)))
def m_solve : MP := mDef .o 6 b_solve
end RV

set_option Elab.async false
set_option linter.all false
set_option maxRecDepth 100000
set_option maxHeartbeats 1000000
/-! PG: plain data and its equality; ratios as rationals; drawn numbers. -/
namespace MR
open PySem L2
/-! ### equality of plain data -/
mutual
def eqvD : D → D → Bool
  | .non, .non => true
  | .bl a, .bl b => a == b
  | .bl a, .int j => (if a then 1 else 0) == j
  | .int i, .bl b => i == (if b then 1 else 0)
  | .int i, .int j => i == j
  | .str x, .str y => x == y
  | .tup xs, .tup ys => eqvL xs ys
  | .lst xs, .lst ys => eqvL xs ys
  | _, _ => false
def eqvL : List D → List D → Bool
  | [], [] => true
  | x :: xs, y :: ys => eqvD x y && eqvL xs ys
  | _, _ => false
end
mutual
/-- data with a PyData, at most k deep -/
def plain : Nat → D → Bool
  | _, .non => true
  | _, .bl _ => true
  | _, .int _ => true
  | _, .str x => x.cps.all (· < 0x110000)
  | k + 1, .tup ds => plains k ds
  | k + 1, .lst ds => plains k ds
  | _, _ => false
def plains : Nat → List D → Bool
  | _, [] => true
  | k, d :: ds => plain k d && plains k ds
end
mutual
theorem plain_py : ∀ {k : Nat} {d : D}, plain k d = true → ∃ p, toPy d = some p ∧ p.canLay0 = true ∧ p.depth ≤ k
  | _, .non, _ => ⟨.none, rfl, by simp [PyData.canLay0], by simp [PyData.depth]⟩
  | _, .bl b, _ => ⟨.bool b, rfl, by simp [PyData.canLay0], by simp [PyData.depth]⟩
  | _, .int i, _ => ⟨.int i, rfl, by simp [PyData.canLay0], by simp [PyData.depth]⟩
  | _, .str x, h => ⟨.str x, rfl, by rw [PyData.canLay0]; exact h, by simp [PyData.depth]⟩
  | k + 1, .tup ds, h => by
    obtain ⟨ps, e, c, d⟩ := plains_py (k := k) (ds := ds) (by simpa [plain] using h)
    exact ⟨.tuple ps, by simp [toPy, e], by simpa [PyData.canLay0] using c, by simp [PyData.depth]; omega⟩
  | k + 1, .lst ds, h => by
    obtain ⟨ps, e, c, d⟩ := plains_py (k := k) (ds := ds) (by simpa [plain] using h)
    exact ⟨.list ps, by simp [toPy, e], by simpa [PyData.canLay0] using c, by simp [PyData.depth]; omega⟩
  | 0, .tup _, h => by simp [plain] at h
  | 0, .lst _, h => by simp [plain] at h
  | 0, .dK _, h => by simp [plain] at h
  | _ + 1, .dK _, h => by simp [plain] at h
  | 0, .dT _, h => by simp [plain] at h
  | _ + 1, .dT _, h => by simp [plain] at h
  | 0, .ins _ _, h => by simp [plain] at h
  | _ + 1, .ins _ _, h => by simp [plain] at h
  | 0, .scr _, h => by simp [plain] at h
  | _ + 1, .scr _, h => by simp [plain] at h
theorem plains_py : ∀ {k : Nat} {ds : List D}, plains k ds = true → ∃ ps, toPys ds = some ps ∧ PyData.canLayAll0 ps = true ∧ PyData.depthAll ps ≤ k
  | _, [], _ => ⟨[], rfl, by simp [PyData.canLayAll0], by simp [PyData.depthAll]⟩
  | k, d :: ds, h => by
    simp only [plains, Bool.and_eq_true] at h
    obtain ⟨p, e, c, l⟩ := plain_py h.1
    obtain ⟨ps, es, cs, ls⟩ := plains_py h.2
    exact ⟨p :: ps, by simp [toPys, e, es], by simp [PyData.canLayAll0, c, cs], by simp [PyData.depthAll]; omega⟩
end
mutual
theorem eqv_py : ∀ {a b : D} {p q : PyData}, toPy a = some p → toPy b = some q → PyData.eqv p q = eqvD a b := by
  intro a b p q h1 h2
  cases a <;> cases b <;> simp [toPy] at h1 h2 <;> first
    | (subst h1; subst h2; simp [PyData.eqv, eqvD]; done)
    | (obtain ⟨ps, e1, rfl⟩ := h1; obtain ⟨qs, e2, rfl⟩ := h2; simp [PyData.eqv, eqvD]; done)
    | (obtain ⟨ps, e1, rfl⟩ := h1; obtain ⟨qs, e2, rfl⟩ := h2; simp only [PyData.eqv, eqvD]; first | rfl | exact eqvs_py e1 e2)
    | (obtain ⟨ps, e1, rfl⟩ := h1; subst h2; simp [PyData.eqv, eqvD]; done)
    | (obtain ⟨ps, e1, rfl⟩ := h2; subst h1; simp [PyData.eqv, eqvD]; done)
theorem eqvs_py : ∀ {as bs : List D} {ps qs : List PyData}, toPys as = some ps → toPys bs = some qs → PyData.eqvAll ps qs = eqvL as bs
  | [], [], _, _, h1, h2 => by simp [toPys] at h1 h2; subst h1; subst h2; rfl
  | a :: as, [], ps, qs, h1, h2 => by
    simp [toPys] at h1 h2
    split at h1
    · cases h1; subst h2; rfl
    · cases h1
  | [], b :: bs, ps, qs, h1, h2 => by
    simp [toPys] at h1 h2
    split at h2
    · cases h2; subst h1; rfl
    · cases h2
  | a :: as, b :: bs, ps, qs, h1, h2 => by
    simp [toPys] at h1 h2
    split at h1
    · rename_i p1 p2 ha has
      split at h2
      · rename_i q1 q2 hb hbs
        cases h1; cases h2
        simp only [PyData.eqvAll, eqvL]
        rw [eqv_py ha hb, eqvs_py has hbs]
      · cases h2
    · cases h1
end
theorem fEq_plain {k l : Nat} {a b : D} (h1 : plain k a = true) (h2 : plain l b = true) (hk : k ≤ 64 := by decide) (hl : l ≤ 64 := by decide) : fEq a b = some (eqvD a b) := by
  obtain ⟨p, e1, c1, d1⟩ := plain_py h1
  obtain ⟨q, e2, c2, d2⟩ := plain_py h2
  have key : fEqD a b = some (eqvD a b) := by
    unfold fEqD
    rw [e1, e2]
    have s1 : SeqAt.shaped p = true := by simp [SeqAt.shaped, c1]; omega
    have s2 : SeqAt.shaped q = true := by simp [SeqAt.shaped, c2]; omega
    simp only [s1, s2, and_self, if_true]
    rw [eqv_py e1 e2]
  unfold fEq
  split
  · simp [eqvD, Bool.beq_eq_decide_eq]
  · simp [eqvD]
    exact (Bool.beq_eq_decide_eq _ _).symm
  · simp [eqvD, Bool.beq_eq_decide_eq]
  · exact key
theorem fNe_plain {k l : Nat} {a b : D} (h1 : plain k a = true) (h2 : plain l b = true) (hk : k ≤ 64 := by decide) (hl : l ≤ 64 := by decide) : fNe a b = some (!eqvD a b) := by
  unfold fNe
  rw [fEq_plain h1 h2 hk hl]
  rfl
end MR

set_option Elab.async false
set_option linter.all false
set_option maxRecDepth 100000
set_option maxHeartbeats 1000000
/-! PQ: the program's ratios as rationals. -/
namespace MR
open PySem L2
/-- the ratio of a rational -/
abbrev rq (x : Rat) : D := .tup [.int x.num, .int x.den]
/-- its size in bits -/
structure Bt (k : Nat) (x : Rat) : Prop where
  n : x.num.natAbs < 2 ^ k
  d : x.den < 2 ^ k
theorem Bt.mono {k l : Nat} {x : Rat} (h : Bt k x) (e : k ≤ l) : Bt l x := ⟨Nat.lt_of_lt_of_le h.n (Nat.pow_le_pow_right (by decide) e), Nat.lt_of_lt_of_le h.d (Nat.pow_le_pow_right (by decide) e)⟩
theorem plain_rq {x : Rat} : plain 1 (rq x) = true := rfl
theorem eqvD_rq {x y : Rat} : eqvD (rq x) (rq y) = decide (x = y) := by
  simp only [eqvD, eqvL, Bool.and_true]
  by_cases h : x = y
  · subst h; simp
  · rw [decide_eq_false h]
    cases h1 : x.num == y.num with
    | false => rfl
    | true =>
      cases h2 : (x.den : Int) == (y.den : Int) with
      | false => rfl
      | true =>
        exfalso
        refine h (Rat.ext (by simpa using h1) ?_)
        have : (x.den : Int) = y.den := by simpa using h2
        omega
@[simp] theorem fEq_rq {x y : Rat} : fEq (rq x) (rq y) = some (decide (x = y)) := by rw [fEq_plain plain_rq plain_rq, eqvD_rq]
@[simp] theorem fNe_rq {x y : Rat} : fNe (rq x) (rq y) = some (!decide (x = y)) := by rw [fNe_plain plain_rq plain_rq, eqvD_rq]
theorem den_pos (x : Rat) : 0 < (x.den : Int) := by have := x.den_nz; omega
theorem rq_int {n : Int} {y : Rat} (h : y = n) : (.tup [.int n, .int 1] : D) = rq y := by subst h; rfl
/-! ### sizes -/
theorem divInt_n {n d : Int} (hd : d ≠ 0) : (Rat.divInt n d).num.natAbs ≤ n.natAbs := by
  rw [Rat.num_divInt]
  rw [Int.natAbs_ediv_of_dvd (Int.dvd_trans (Int.gcd_dvd_right ..) (Int.dvd_mul_left ..))]
  refine Nat.le_trans (Nat.div_le_self _ _) ?_
  rw [Int.natAbs_mul, Int.natAbs_sign_of_ne_zero hd]
  omega
theorem divInt_d {n d : Int} (hd : d ≠ 0) : (Rat.divInt n d).den ≤ d.natAbs := by
  rw [Rat.den_divInt, if_neg hd]
  exact Nat.div_le_self _ _
theorem Bt.of {n d : Int} {k : Nat} (hd : d ≠ 0) (h1 : n.natAbs < 2 ^ k) (h2 : d.natAbs < 2 ^ k) : Bt k (Rat.divInt n d) := ⟨Nat.lt_of_le_of_lt (divInt_n hd) h1, Nat.lt_of_le_of_lt (divInt_d hd) h2⟩
theorem mul_bits {a b k l : Nat} (h1 : a < 2 ^ k) (h2 : b < 2 ^ l) : a * b < 2 ^ (k + l) := by
  rw [Nat.pow_add]
  exact Nat.mul_lt_mul'' h1 h2
theorem mul_bitsI {a b : Int} {k l : Nat} (h1 : a.natAbs < 2 ^ k) (h2 : b.natAbs < 2 ^ l) : (a * b).natAbs < 2 ^ (k + l) := by
  rw [Int.natAbs_mul]
  exact mul_bits h1 h2
theorem add_bitsI {a b : Int} {k : Nat} (h1 : a.natAbs < 2 ^ k) (h2 : b.natAbs < 2 ^ k) : (a + b).natAbs < 2 ^ (k + 1) := by
  rw [Nat.pow_succ]
  omega
theorem sub_bitsI {a b : Int} {k : Nat} (h1 : a.natAbs < 2 ^ k) (h2 : b.natAbs < 2 ^ k) : (a - b).natAbs < 2 ^ (k + 1) := by
  rw [Nat.pow_succ]
  omega
theorem add_eqD (x y : Rat) : x + y = Rat.divInt (x.num * y.den + y.num * x.den) (x.den * y.den) := by
  rw [Rat.add_def', ← Rat.divInt_ofNat, Int.natCast_mul]
theorem sub_eqD (x y : Rat) : x - y = Rat.divInt (x.num * y.den - y.num * x.den) (x.den * y.den) := by
  rw [Rat.sub_def', ← Rat.divInt_ofNat, Int.natCast_mul]
theorem mul_eqD (x y : Rat) : x * y = Rat.divInt (x.num * y.num) (x.den * y.den) := by
  rw [Rat.mul_def', ← Rat.divInt_ofNat, Int.natCast_mul]
theorem div_eqD (x y : Rat) : x / y = Rat.divInt (x.num * y.den) (x.den * y.num) := by
  rw [Rat.div_def, Rat.inv_def]
  conv => lhs; lhs; rw [← Rat.num_divInt_den x]
  rw [Rat.divInt_mul_divInt]
theorem dn0 (x y : Rat) : (x.den : Int) * y.den ≠ 0 := Int.mul_ne_zero (by have := den_pos x; omega) (by have := den_pos y; omega)
theorem Bt.addl {k l : Nat} {x y : Rat} (h1 : Bt k x) (h2 : Bt l y) : Bt (k + l + 1) (x + y) := by
  rw [add_eqD]
  refine .of (dn0 x y) (add_bitsI (mul_bitsI h1.n (by simpa using h2.d)) ?_) (Nat.lt_trans (mul_bitsI (by simpa using h1.d) (by simpa using h2.d)) (Nat.pow_lt_pow_right (by decide) (by omega)))
  rw [Nat.add_comm k l]
  exact mul_bitsI h2.n (by simpa using h1.d)
theorem Bt.subl {k l : Nat} {x y : Rat} (h1 : Bt k x) (h2 : Bt l y) : Bt (k + l + 1) (x - y) := by
  rw [sub_eqD]
  refine .of (dn0 x y) (sub_bitsI (mul_bitsI h1.n (by simpa using h2.d)) ?_) (Nat.lt_trans (mul_bitsI (by simpa using h1.d) (by simpa using h2.d)) (Nat.pow_lt_pow_right (by decide) (by omega)))
  rw [Nat.add_comm k l]
  exact mul_bitsI h2.n (by simpa using h1.d)
theorem Bt.add {k : Nat} {x y : Rat} (h1 : Bt k x) (h2 : Bt k y) : Bt (k + k + 1) (x + y) := h1.addl h2
theorem Bt.sub {k : Nat} {x y : Rat} (h1 : Bt k x) (h2 : Bt k y) : Bt (k + k + 1) (x - y) := h1.subl h2
theorem Bt.mul {k l : Nat} {x y : Rat} (h1 : Bt k x) (h2 : Bt l y) : Bt (k + l) (x * y) := by
  rw [mul_eqD]
  exact .of (dn0 x y) (mul_bitsI h1.n h2.n) (mul_bitsI (by simpa using h1.d) (by simpa using h2.d))
theorem Bt.div {k l : Nat} {x y : Rat} (h1 : Bt k x) (h2 : Bt l y) (h0 : y ≠ 0) : Bt (k + l) (x / y) := by
  rw [div_eqD]
  have : y.num ≠ 0 := fun z => h0 (Rat.num_eq_zero.mp z)
  exact .of (Int.mul_ne_zero (by have := den_pos x; omega) this) (mul_bitsI h1.n (by simpa using h2.d)) (mul_bitsI (by simpa using h1.d) h2.n)
/-! ### the lowest terms -/
theorem gcd_loop (x y : D) (k : Nat) : ∀ a b : Nat, b < k → whileN (mCmpT fGt (mVar 3) (mC (.int 0))) RV.b__law_low_L0 k [x, y, .int a, .int b] = .nx [x, y, .int (Nat.gcd a b), .int 0] := by
  induction k with
  | zero => intro a b h; omega
  | succ k ih =>
    intro a b h
    rw [whileN_succ]
    by_cases hb : b = 0
    · subst hb
      simp
    · have h2 : CModX (a : Int) (b : Int) := by unfold CModX; omega
      have h3 : ((a : Int).fmod (b : Int)) = ((a % b : Nat) : Int) := by
        rw [Int.fmod_eq_emod_of_nonneg _ (by omega)]; simp
      have h4 : a % b < b := Nat.mod_lt _ (by omega)
      have e : RV.b__law_low_L0 [x, y, .int a, .int b] = .nx [x, y, .int b, .int ((a % b : Nat) : Int)] := by
        unfold RV.b__law_low_L0
        simp [h2, h3]
      have t : mCmpT fGt (mVar 3) (mC (.int 0)) [x, y, .int a, .int b] = .ok true [x, y, .int a, .int b] := by simp; omega
      rw [t, wh_t, e, loop_nx]
      rw [ih b (a % b) (by omega), Nat.gcd_comm a b, Nat.gcd_rec b a, Nat.gcd_comm b (a % b)]
theorem gcd_loop2 (k : Nat) : ∀ (a : Int) (b : Nat), b < k → ∃ g : Int, whileN (mCmpT fNe (mVar 1) (mC (.int 0))) RV.b_common_divisor_L0 k [.int a, .int b] = .nx [.int g, .int 0] ∧ g.natAbs = Int.gcd a b := by
  induction k with
  | zero => intro a b h; omega
  | succ k ih =>
    intro a b h
    rw [whileN_succ]
    by_cases hb : b = 0
    · subst hb
      exact ⟨a, by simp, by simp⟩
    · have h2 : CModX a (b : Int) := by unfold CModX; omega
      have h5 : 0 ≤ a % (b : Int) := Int.emod_nonneg _ (by omega)
      have h4 : a % (b : Int) < b := Int.emod_lt_of_pos _ (by omega)
      obtain ⟨m, hm⟩ := Int.eq_ofNat_of_zero_le h5
      have h3 : a.fmod (b : Int) = m := by
        rw [Int.fmod_eq_emod_of_nonneg _ (by omega)]; exact hm
      have e : RV.b_common_divisor_L0 [.int a, .int b] = .nx [.int b, .int m] := by
        unfold RV.b_common_divisor_L0
        simp [h2, h3]
      have t : mCmpT fNe (mVar 1) (mC (.int 0)) [.int a, .int b] = .ok true [.int a, .int b] := by simp; omega
      rw [t, wh_t, e, loop_nx]
      obtain ⟨g, h6, h7⟩ := ih b m (by omega)
      refine ⟨g, h6, ?_⟩
      rw [h7, ← hm, Int.gcd_comm a]
      have e2 : a = a % (b : Int) + (b : Int) * (a / b) := by have := Int.emod_add_mul_ediv a b; omega
      conv => rhs; rw [e2]
      exact (Int.gcd_add_mul_left_right _ _ _).symm
theorem divx_g {i : Int} {n d : Int} (hd : d ≠ 0) (hi : i.natAbs < 2 ^ 13500) : CDivX i (Int.gcd n d : Int) := by
  have g0 : 0 < Int.gcd n d := Int.gcd_pos_of_ne_zero_right n hd
  exact divx2 (by omega) hi
theorem fdiv_g (i n d : Int) : i.fdiv (Int.gcd n d : Int) = i / (Int.gcd n d : Int) := Int.fdiv_eq_ediv_of_nonneg _ (by omega)
theorem rq_divInt {n d : Int} (hd : 0 < d) : rq (Rat.divInt n d) = .tup [.int (n / (Int.gcd n d : Int)), .int (d / (Int.gcd n d : Int))] := by
  unfold rq
  have h0 : d ≠ 0 := by omega
  rw [Rat.num_divInt, Rat.den_divInt, if_neg h0, Int.sign_eq_one_of_pos hd, Int.one_mul, Int.gcd_comm d n, Int.natCast_ediv]
  rw [show ((d.natAbs : Nat) : Int) = d by omega]
theorem low_eq {n d : Int} (hd : 0 < d) (hn : n.natAbs < 2 ^ 13500) (hs : d.natAbs < 2 ^ 13500) : RV.m__law_low [.int n, .int d] = .ok (rq (Rat.divInt n d)) := by
  have lt0 : ¬ d < 0 := by omega
  have h0 : d ≠ 0 := by omega
  have L := gcd_loop (.int n) (.int d) (d.natAbs + 1) n.natAbs d.natAbs (by omega)
  unfold RV.m__law_low
  rw [mDef_eq]
  unfold RV.b__law_low
  simp [D.nat, L, lt0]
  rw [show n.natAbs.gcd d.natAbs = Int.gcd n d from rfl]
  simp only [divx_g h0 hn, divx_g h0 hs, fdiv_g, if_true, rr_of_some, cons1_ok, cons2_ok, rq_divInt hd]
  simp [divx_g h0 hn, divx_g h0 hs, fdiv_g]
theorem isint_int (i : Int) : RV.m_is_integer [.int i] = .ok (.bl true) := by
  unfold RV.m_is_integer
  rw [mDef_eq]
  unfold RV.b_is_integer
  simp [fNotV]
theorem isint_bl (p : Bool) : RV.m_is_integer [.bl p] = .ok (.bl false) := by
  unfold RV.m_is_integer
  rw [mDef_eq]
  unfold RV.b_is_integer
  simp [fNotV]
theorem isint_not {x : D} (h : fIsi "int" x = some (.bl false)) : RV.m_is_integer [x] = .ok (.bl false) := by
  unfold RV.m_is_integer
  rw [mDef_eq]
  unfold RV.b_is_integer
  simp [h]
theorem ratio_bad1 {x y : D} (h : RV.m_is_integer [x] = .ok (.bl false)) : RV.m_ratio [x, y] = .exc .ratio := by
  unfold RV.m_ratio
  rw [mDef_eq]
  unfold RV.b_ratio
  simp [h]
theorem ratio_bad2 {n : Int} {y : D} (h : RV.m_is_integer [y] = .ok (.bl false)) : RV.m_ratio [.int n, y] = .exc .ratio := by
  unfold RV.m_ratio
  rw [mDef_eq]
  unfold RV.b_ratio
  simp [h, isint_int]
theorem ratio_low {n d : Int} (h : d < 1) : RV.m_ratio [.int n, .int d] = .exc .ratio := by
  unfold RV.m_ratio
  rw [mDef_eq]
  unfold RV.b_ratio
  simp [isint_int, h]
theorem ratio_eq {n d : Int} (hd : 0 < d) (hn : n.natAbs < 2 ^ 13500) (hs : d.natAbs < 2 ^ 13500) : RV.m_ratio [.int n, .int d] = .ok (rq (Rat.divInt n d)) := by
  have lt0 : ¬ d < 1 := by omega
  have h0 : d ≠ 0 := by omega
  obtain ⟨g, L, hg⟩ := gcd_loop2 (d.natAbs + 1) n d.natAbs (by omega)
  have ed : ((d.natAbs : Nat) : Int) = d := by omega
  rw [ed] at L hg
  have ig : ∀ i : Int, RV.m_is_integer [.int i] = .ok (.bl true) := fun i => by
    unfold RV.m_is_integer
    rw [mDef_eq]
    unfold RV.b_is_integer
    simp [fNotV]
  have cd : RV.m_common_divisor [.int n, .int d] = .ok (.int (Int.gcd n d)) := by
    unfold RV.m_common_divisor
    rw [mDef_eq]
    unfold RV.b_common_divisor
    simp [D.nat, L, hg]
  unfold RV.m_ratio
  rw [mDef_eq]
  unfold RV.b_ratio
  simp [ig, cd, lt0, divx_g h0 hn, divx_g h0 hs, fdiv_g]
  have e := rq_divInt (n := n) hd
  simp only [rq, D.tup.injEq, List.cons.injEq, D.int.injEq, and_true] at e
  exact ⟨e.1.symm, e.2.symm⟩
theorem cross {v : Rat} {n d : Int} (h : v = Rat.divInt n d) (hd : d ≠ 0) : v.num * d = n * v.den := by
  have e : Rat.divInt v.num v.den = Rat.divInt n d := by rw [Rat.num_divInt_den]; exact h
  exact (Rat.divInt_eq_divInt_iff (by have := den_pos v; omega) hd).mp e
/-! ### drawn numbers -/
theorem cell_eq (ns : List Int) (k : Nat) (hk : k ≤ 1000) : RV.m__law_cell [.scr ns, .int k] = .ok (.int (ns.getD k (13 * k + 2))) := by
  unfold RV.m__law_cell
  rw [mDef_eq]
  unfold RV.b__law_cell
  by_cases h : k < ns.length
  · simp [h, atI_nat']
  · have h3 : CMulX 13 k := mulx (a := 10) (b := 10) (by decide) (by omega)
    simp [h, h3]
theorem cell_ex (ns : List Int) (k : Int) (h0 : 0 ≤ k := by omega) (hk : k ≤ 1000 := by omega) : ∃ x : Int, RV.m__law_cell [.scr ns, .int k] = .ok (.int x) := by
  obtain ⟨n, rfl⟩ := Int.eq_ofNat_of_zero_le h0
  exact ⟨_, cell_eq ns n (by omega)⟩
theorem modx {i j : Int} (h : j ≠ 0 := by decide) : CModX i j := h
theorem fmod_lt {i j : Int} (h : 0 < j) : 0 ≤ i.fmod j ∧ i.fmod j < j := by
  rw [Int.fmod_eq_emod_of_nonneg i (by omega)]
  exact ⟨Int.emod_nonneg _ (by omega), Int.emod_lt_of_pos _ h⟩
theorem num_eq (c : Int) : ∃ n : Int, RV.m__law_number [.int c] = .ok (.int n) ∧ n.natAbs < 2 ^ 47 := by
  unfold RV.m__law_number
  rw [mDef_eq]
  unfold RV.b__law_number
  have hd : CDivX c 4 := divx (b := 3) (by decide) (by decide)
  have hm : ∀ i : Int, CModX i 4 ∧ CModX i 19 ∧ CModX i 3000 ∧ CModX i 777 := fun i => by unfold CModX; decide
  have hp : CPow 10 14 := by decide
  have e1 : (c.fmod 4 = 0 ∨ c.fmod 4 = 1) ∨ (c.fmod 4 = 2 ∨ c.fmod 4 = 3) := by
    have := @fmod_lt c 4 (by decide)
    omega
  have := @fmod_lt (c.fdiv 4) 19 (by decide); have := @fmod_lt (c.fdiv 4) 3000 (by decide); have := @fmod_lt (c.fdiv 4) 777 (by decide)
  simp [hd, hm, hp]
  rcases e1 with (e | e) | (e | e) <;> rw [e] <;> simp <;> omega
theorem p2 {k l : Nat} {n : Nat} (h : n < 2 ^ k) (e : k ≤ l := by decide) : n < 2 ^ l := Nat.lt_of_lt_of_le h (Nat.pow_le_pow_right (by decide) e)
theorem rat_eq (c : Int) : ∃ x : Rat, RV.m__law_ratio [.int c] = .ok (rq x) ∧ Bt 48 x := by
  obtain ⟨n, en, hn⟩ := num_eq (c.fdiv 3)
  obtain ⟨d, ed, hd⟩ := num_eq (c.fdiv 8)
  have b1 : n.natAbs < 2 ^ 48 := p2 hn
  have b2 : (1 + (d.natAbs : Int)).natAbs < 2 ^ 48 := by omega
  refine ⟨Rat.divInt n (1 + d.natAbs), ?_, .of (by omega) b1 b2⟩
  have e := low_eq (n := n) (d := 1 + d.natAbs) (by omega) (p2 b1) (p2 b2)
  unfold RV.m__law_ratio
  rw [mDef_eq]
  unfold RV.b__law_ratio
  have c3 : CDivX c 3 := divx (b := 3) (by decide) (by decide)
  have c8 : CDivX c 8 := divx (b := 4) (by decide) (by decide)
  simp [c3, c8, en, ed, e]
/-! ### reckoning -/
section
variable {k l : Nat} {x y : Rat}
theorem mx {i j : Int} (h1 : i.natAbs < 2 ^ k) (h2 : j.natAbs < 2 ^ l) (h : k + l ≤ 133000000) : CMulX i j := by
  refine mulx (a := k + 1) (b := l + 1) ?_ ?_ (by omega) (by omega) (by omega)
  · exact Nat.lt_trans h1 (Nat.pow_lt_pow_right (by decide) (by omega))
  · exact Nat.lt_trans h2 (Nat.pow_lt_pow_right (by decide) (by omega))
theorem nd (h : Bt k x) : ((x.den : Int)).natAbs < 2 ^ k := by simpa using h.d
theorem less_eq (h1 : Bt k x) (h2 : Bt l y) (h : k + l ≤ 133000000 := by decide) : RV.m_less [rq x, rq y] = .ok (.bl (decide (x < y))) := by
  unfold RV.m_less
  rw [mDef_eq]
  unfold RV.b_less
  have m1 := mx h1.n (nd h2) h
  have m2 := mx h2.n (nd h1) (by omega)
  simp [m1, m2, Rat.lt_iff]
theorem at_most_eq (h1 : Bt k x) (h2 : Bt l y) (h : k + l ≤ 133000000 := by decide) : RV.m_at_most [rq x, rq y] = .ok (.bl (decide (x ≤ y))) := by
  unfold RV.m_at_most
  rw [mDef_eq]
  unfold RV.b_at_most
  have m1 := mx h1.n (nd h2) h
  have m2 := mx h2.n (nd h1) (by omega)
  simp [m1, m2, Rat.le_iff]
theorem sign_eq : RV.m_sign [rq x] = .ok (.int ((if 0 < x.num then 1 else 0) - (if x.num < 0 then 1 else 0))) := by
  unfold RV.m_sign
  rw [mDef_eq]
  unfold RV.b_sign
  simp
theorem den_mul_pos : 0 < (x.den : Int) * y.den := Int.mul_pos (den_pos x) (den_pos y)
theorem add_eq (h1 : Bt k x) (h2 : Bt l y) (h : k + l ≤ 13400 := by decide) : RV.m_add [rq x, rq y] = .ok (rq (x + y)) := by
  unfold RV.m_add
  rw [mDef_eq]
  unfold RV.b_add
  have m1 := mx h1.n (nd h2) (by omega)
  have m2 := mx h2.n (nd h1) (by omega)
  have m3 := mx (nd h1) (nd h2) (by omega)
  have b1 := mul_bitsI h1.n (nd h2)
  have b2 := mul_bitsI h2.n (nd h1)
  have b3 := mul_bitsI (nd h1) (nd h2)
  have q1 := p2 b1 (l := 13499) (by omega)
  have q2 := p2 b2 (l := 13499) (by omega)
  have e := ratio_eq (n := x.num * y.den + y.num * x.den) (d := x.den * y.den) den_mul_pos (add_bitsI q1 q2) (p2 b3 (by omega))
  simp [m1, m2, m3, e, add_eqD]
theorem sub_eq (h1 : Bt k x) (h2 : Bt l y) (h : k + l ≤ 13400 := by decide) : RV.m_sub [rq x, rq y] = .ok (rq (x - y)) := by
  unfold RV.m_sub
  rw [mDef_eq]
  unfold RV.b_sub
  have m1 := mx h1.n (nd h2) (by omega)
  have m2 := mx h2.n (nd h1) (by omega)
  have m3 := mx (nd h1) (nd h2) (by omega)
  have b1 := mul_bitsI h1.n (nd h2)
  have b2 := mul_bitsI h2.n (nd h1)
  have b3 := mul_bitsI (nd h1) (nd h2)
  have q1 := p2 b1 (l := 13499) (by omega)
  have q2 := p2 b2 (l := 13499) (by omega)
  have e := ratio_eq (n := x.num * y.den - y.num * x.den) (d := x.den * y.den) den_mul_pos (sub_bitsI q1 q2) (p2 b3 (by omega))
  simp [m1, m2, m3, e, sub_eqD]
theorem times_eq (h1 : Bt k x) (h2 : Bt l y) (h : k + l ≤ 13400 := by decide) : RV.m_times [rq x, rq y] = .ok (rq (x * y)) := by
  unfold RV.m_times
  rw [mDef_eq]
  unfold RV.b_times
  have m1 := mx h1.n h2.n (by omega)
  have m3 := mx (nd h1) (nd h2) (by omega)
  have b1 := mul_bitsI h1.n h2.n
  have b3 := mul_bitsI (nd h1) (nd h2)
  have e := ratio_eq (n := x.num * y.num) (d := x.den * y.den) den_mul_pos (p2 b1 (by omega)) (p2 b3 (by omega))
  simp [m1, m3, e, mul_eqD]
theorem over_eq (h1 : Bt k x) (h2 : Bt l y) (h0 : y ≠ 0) (h : k + l ≤ 13400 := by decide) : RV.m_over [rq x, rq y] = .ok (rq (x / y)) := by
  have hn : y.num ≠ 0 := fun z => h0 (Rat.num_eq_zero.mp z)
  unfold RV.m_over
  rw [mDef_eq]
  unfold RV.b_over
  have m1 := mx h1.n (nd h2) (by omega)
  have m2 := mx (nd h1) h2.n (by omega)
  have b1 := mul_bitsI h1.n (nd h2)
  have b3 := mul_bitsI (nd h1) h2.n
  by_cases hy : y.num < 0
  · have d0 : (x.den : Int) * y.num < 0 := Int.mul_neg_of_pos_of_neg (den_pos x) hy
    have e := ratio_eq (n := -(x.num * y.den)) (d := -(x.den * y.num)) (by omega) (by simpa using p2 b1 (by omega)) (by simpa using p2 b3 (by omega))
    rw [Rat.neg_divInt_neg] at e
    simp [hn, m1, m2, d0, e, div_eqD]
  · have d0 : ¬ (x.den : Int) * y.num < 0 := by
      have := Int.mul_pos (den_pos x) (show 0 < y.num by omega)
      omega
    have e := ratio_eq (n := x.num * y.den) (d := x.den * y.num) (Int.mul_pos (den_pos x) (by omega)) (p2 b1 (by omega)) (p2 b3 (by omega))
    simp [hn, m1, m2, d0, e, div_eqD]
theorem over_zero : RV.m_over [rq x, .tup [.int 0, .int 1]] = .exc .ratio := by
  unfold RV.m_over
  rw [mDef_eq]
  unfold RV.b_over
  simp
theorem is_ratio_eq (h1 : x.num.natAbs < 2 ^ 13500) (h2 : x.den < 2 ^ 13500) : RV.m__law_is_ratio [rq x] = .ok (.bl true) := by
  unfold RV.m__law_is_ratio
  rw [mDef_eq]
  unfold RV.b__law_is_ratio
  have e := low_eq (n := x.num) (d := x.den) (den_pos x) h1 (by simpa using h2)
  rw [Rat.num_divInt_den] at e
  have p := den_pos x
  have d1 : (1 : Int) ≤ x.den := by omega
  simp [forL_cons, RV.b__law_is_ratio_L0, d1, e]
end
end MR

set_option Elab.async false
set_option linter.all false
set_option maxRecDepth 100000
set_option maxHeartbeats 1000000
/-! PM: sums, products of rows. -/
namespace MR
open PySem L2
def rql (xs : List Rat) : D := .lst (xs.map rq)
def rqm (rows : List (List Rat)) : D := .lst (rows.map rql)
def at0 (xs : List Rat) (i : Nat) : Rat := xs.getD i 0
def row (rows : List (List Rat)) (i : Nat) : List Rat := rows.getD i []
def Bts (k : Nat) (xs : List Rat) : Prop := ∀ x ∈ xs, Bt k x
/-! ### plain -/
theorem plains_map {α : Type} {k : Nat} {f : α → D} : ∀ {xs : List α}, (∀ x ∈ xs, plain k (f x) = true) → plains k (xs.map f) = true
  | [], _ => rfl
  | x :: xs, h => by
    simp only [List.map_cons, plains, Bool.and_eq_true]
    exact ⟨h x List.mem_cons_self, plains_map fun y hy => h y (List.mem_cons_of_mem _ hy)⟩
theorem plain_rql {xs : List Rat} : plain 2 (rql xs) = true := plains_map fun _ _ => rfl
theorem plain_rqm {rows : List (List Rat)} : plain 3 (rqm rows) = true := plains_map fun _ _ => plain_rql
theorem eqvL_map {α : Type} [DecidableEq α] {f : α → D} (h : ∀ x y, eqvD (f x) (f y) = decide (x = y)) : ∀ {xs ys : List α}, eqvL (xs.map f) (ys.map f) = decide (xs = ys)
  | [], [] => rfl
  | [], _ :: _ => rfl
  | _ :: _, [] => rfl
  | x :: xs, y :: ys => by
    simp only [List.map_cons, eqvL, h, eqvL_map h]
    by_cases e : x = y
    · subst e
      by_cases e2 : xs = ys
      · subst e2; simp
      · simp [e2]
    · simp [e]
theorem eqvD_rql {xs ys : List Rat} : eqvD (rql xs) (rql ys) = decide (xs = ys) := by
  unfold rql
  simp only [eqvD]
  exact eqvL_map fun _ _ => eqvD_rq
theorem eqvD_rqm {xs ys : List (List Rat)} : eqvD (rqm xs) (rqm ys) = decide (xs = ys) := by
  unfold rqm
  simp only [eqvD]
  exact eqvL_map fun _ _ => eqvD_rql
theorem fEq_rql {xs ys : List Rat} : fEq (rql xs) (rql ys) = some (decide (xs = ys)) := by rw [fEq_plain plain_rql plain_rql, eqvD_rql]
theorem fNe_rql {xs ys : List Rat} : fNe (rql xs) (rql ys) = some (!decide (xs = ys)) := by rw [fNe_plain plain_rql plain_rql, eqvD_rql]
theorem fEq_rqm {xs ys : List (List Rat)} : fEq (rqm xs) (rqm ys) = some (decide (xs = ys)) := by rw [fEq_plain plain_rqm plain_rqm, eqvD_rqm]
/-! ### indexes -/
theorem atI_map {α : Type} {f : α → D} {xs : List α} {n : Nat} (h : n < xs.length) : atI (xs.map f) (n : Int) = some (f xs[n]) := by
  rw [atI_nat', List.getElem?_map, List.getElem?_eq_getElem h]
  rfl
theorem atI_rq {xs : List Rat} {i : Nat} (h : i < xs.length) : atI (xs.map rq) (i : Int) = some (rq (at0 xs i)) := by
  unfold at0
  rw [atI_map h, List.getD_eq_getElem?_getD, List.getElem?_eq_getElem h]
  rfl
@[simp] theorem len_rql {xs : List Rat} : fLen [rql xs] = some (.int xs.length) := by unfold rql; simp
@[simp] theorem len_rqm {xs : List (List Rat)} : fLen [rqm xs] = some (.int xs.length) := by unfold rqm; simp
@[simp] theorem items_rql {xs : List Rat} : itemsOf (rql xs) = some (xs.map rq) := rfl
@[simp] theorem items_rqm {xs : List (List Rat)} : itemsOf (rqm xs) = some (xs.map rql) := rfl
@[simp] theorem asLst_rql {xs : List Rat} : asLst (rql xs) = some (xs.map rq) := rfl
@[simp] theorem asLst_rqm {xs : List (List Rat)} : asLst (rqm xs) = some (xs.map rql) := rfl
@[simp] theorem listOf_rql {xs : List Rat} : fListOf [rql xs] = some (rql xs) := rfl
@[simp] theorem truth_rql {xs : List Rat} : truth (rql xs) = some (!xs.isEmpty) := by cases xs <;> rfl
@[simp] theorem isi_rql {xs : List Rat} : fIsi "list" (rql xs) = some (.bl true) := isi_lst_list
theorem ix_rql {xs : List Rat} {i : Nat} (h : i < xs.length) : fIx (rql xs) (.int i) = some (rq (at0 xs i)) := atI_rq h
theorem ix_rqm {xs : List (List Rat)} {i : Nat} (h : i < xs.length) : fIx (rqm xs) (.int i) = some (rql (row xs i)) := by
  show atI (xs.map rql) (i : Int) = _
  unfold row
  rw [atI_map h, List.getD_eq_getElem?_getD, List.getElem?_eq_getElem h]
  rfl
theorem rql_of {xs : List Rat} : D.lst (xs.map rq) = rql xs := rfl
theorem rqm_of {xs : List (List Rat)} : D.lst (xs.map rql) = rqm xs := rfl
theorem rql_two {a b : Rat} : D.lst [rq a, rq b] = rql [a, b] := rfl
theorem rql_snoc {xs : List Rat} {y : Rat} : D.lst (xs.map rq ++ [rq y]) = rql (xs ++ [y]) := by simp [rql]
theorem rqm_snoc {xs : List (List Rat)} {y : List Rat} : D.lst (xs.map rql ++ [rql y]) = rqm (xs ++ [y]) := by simp [rqm]
theorem rql_nil : D.lst [] = rql [] := rfl
theorem rqm_nil : D.lst [] = rqm [] := rfl
theorem rql_range {n : Nat} {f : Nat → Rat} : D.lst ((List.range n).map fun i => rq (f i)) = rql ((List.range n).map f) := by unfold rql; rw [List.map_map]; rfl
theorem rql_map {α : Type} {xs : List α} {f : α → Rat} : D.lst (xs.map fun x => rq (f x)) = rql (xs.map f) := by unfold rql; rw [List.map_map]; rfl
theorem rqm_map {α : Type} {xs : List α} {f : α → List Rat} : D.lst (xs.map fun x => rql (f x)) = rqm (xs.map f) := by unfold rqm; rw [List.map_map]; rfl
theorem ilist_map {α : Type} {n : Nat} {f : D → α} {g : Nat → α} (h : ∀ i, i < n → f (.int (i : Int)) = g i) : (ilist 0 n).map f = (List.range n).map g := by
  unfold ilist
  rw [List.map_map]
  refine List.map_congr_left fun i hi => ?_
  show f (.int (0 + (i : Int))) = g i
  rw [Int.zero_add]
  exact h i (List.mem_range.mp hi)
/-! ### drawn small ratios -/
theorem small_eq (c : Int) : ∃ x : Rat, RV.m__law_small [.int c] = .ok (rq x) ∧ Bt 4 x ∧ ∃ n d : Int, x = Rat.divInt n d ∧ 1 ≤ d ∧ d ≤ 9 ∧ n.natAbs ≤ 6 := by
  have h1 := @fmod_lt c 13 (by decide)
  have h3 := @fmod_lt (c.fdiv 60) 3 (by decide)
  have e3 : c.fdiv 60 |>.fmod 3 |> fun i => i = 0 ∨ i = 1 ∨ i = 2 := by show _ ∨ _ ∨ _; omega
  have hd : CDivX c 13 := divx (b := 4) (by decide) (by decide)
  have hd2 : CDivX c 60 := divx (b := 6) (by decide) (by decide)
  have hm : ∀ i : Int, CModX i 13 ∧ CModX i 3 ∧ CModX i 1 ∧ CModX i 4 ∧ CModX i 9 := fun i => by unfold CModX; decide
  have go : ∀ q : Int, 0 ≤ q → q < 9 → ∃ x : Rat, RV.m__law_low [.int (c.fmod 13 - 6), .int (1 + q)] = .ok (rq x) ∧ Bt 4 x ∧ ∃ n d : Int, x = Rat.divInt n d ∧ 1 ≤ d ∧ d ≤ 9 ∧ n.natAbs ≤ 6 := fun q q0 q9 => by
    have b1 : (c.fmod 13 - 6).natAbs < 2 ^ 4 := by omega
    have b2 : (1 + q).natAbs < 2 ^ 4 := by omega
    exact ⟨_, low_eq (by omega) (p2 b1) (p2 b2), .of (by omega) b1 b2, _, _, rfl, by omega, by omega, by omega⟩
  unfold RV.m__law_small
  simp only [mDef_eq]
  unfold RV.b__law_small
  rcases e3 with e | e | e
  · obtain ⟨x, h, b⟩ := go 0 (by decide) (by decide)
    have h : RV.m__law_low [.int (c.fmod 13 - 6), .int 1] = .ok (rq x) := h
    exact ⟨x, by simp [hd, hd2, hm, e, h], b⟩
  · obtain ⟨x, h, b⟩ := go ((c.fdiv 13).fmod 4) (fmod_lt (by decide)).1 (by have := @fmod_lt (c.fdiv 13) 4 (by decide); omega)
    exact ⟨x, by simp [hd, hd2, hm, e, h], b⟩
  · obtain ⟨x, h, b⟩ := go ((c.fdiv 13).fmod 9) (fmod_lt (by decide)).1 (by have := @fmod_lt (c.fdiv 13) 9 (by decide); omega)
    exact ⟨x, by simp [hd, hd2, hm, e, h], b⟩
/-- the drawn numbers, as functions of the cell -/
noncomputable def smallR (c : Int) : Rat := (small_eq c).choose
theorem small_is (c : Int) : RV.m__law_small [.int c] = .ok (rq (smallR c)) := (small_eq c).choose_spec.1
theorem small_bt (c : Int) : Bt 4 (smallR c) := (small_eq c).choose_spec.2.1
theorem small_form (c : Int) : ∃ n d : Int, smallR c = Rat.divInt n d ∧ 1 ≤ d ∧ d ≤ 9 ∧ n.natAbs ≤ 6 := (small_eq c).choose_spec.2.2
def cellZ (ns : List Int) (k : Nat) : Int := ns.getD k (13 * k + 2)
theorem cell_is (ns : List Int) (k : Nat) (hk : k ≤ 1000) : RV.m__law_cell [.scr ns, .int k] = .ok (.int (cellZ ns k)) := cell_eq ns k hk
/-! ### sums -/
theorem bt_n {k : Nat} {x : Rat} (h : Bt k x) : x.num.natAbs < 2 ^ k := h.n
theorem sum_loop {k N : Nat} (hk : N * (k + 2) + 1 + k ≤ 13300) : ∀ (xs : List Rat) (j : Nat) (n d : Int) (l : D), Bts k xs → j + xs.length ≤ N → 0 < d → n.natAbs < 2 ^ (j * (k + 2) + 1) → d.natAbs < 2 ^ (j * (k + 2) + 1) →
    ∃ n' d' : Int, forL (bName 3) RV.b__law_sum_L0 (xs.map rq) [l, .int n, .int d, .non] = .nx [l, .int n', .int d', .non] ∧ 0 < d' ∧ Rat.divInt n' d' = Rat.divInt n d + xs.sum ∧ n'.natAbs < 2 ^ ((j + xs.length) * (k + 2) + 1) ∧ d'.natAbs < 2 ^ ((j + xs.length) * (k + 2) + 1)
  | [], j, n, d, l, _, _, hd, hn, hs => ⟨n, d, rfl, hd, by simp [Rat.add_zero], by simpa using hn, by simpa using hs⟩
  | x :: xs, j, n, d, l, hx, hl, hd, hn, hs => by
    have bx := hx x List.mem_cons_self
    have px := den_pos x
    simp only [List.length_cons] at hl
    have l1 : j * (k + 2) ≤ N * (k + 2) := Nat.mul_le_mul (by omega) (Nat.le_refl _)
    have m1 : CMulX n x.den := mx hn (nd bx) (by omega)
    have m2 : CMulX x.num d := mx bx.n hs (by omega)
    have m3 : CMulX d x.den := mx hs (nd bx) (by omega)
    have z1 := mul_bitsI hn (nd bx)
    have z2 := p2 (l := j * (k + 2) + 1 + k) (mul_bitsI bx.n hs) (by omega)
    have z3 := mul_bitsI hs (nd bx)
    have e : (j + 1) * (k + 2) + 1 = j * (k + 2) + 1 + k + 1 + 1 := by rw [Nat.add_mul]; omega
    have q1 : (n * x.den + x.num * d).natAbs < 2 ^ ((j + 1) * (k + 2) + 1) := p2 (add_bitsI z1 z2) (by omega)
    have q3 : (d * x.den).natAbs < 2 ^ ((j + 1) * (k + 2) + 1) := p2 z3 (by omega)
    have dp : 0 < d * (x.den : Int) := Int.mul_pos hd px
    obtain ⟨n', d', h1, h2, h3, h4, h5⟩ := sum_loop hk xs (j + 1) _ _ l (fun y hy => hx y (List.mem_cons_of_mem _ hy)) (by omega) dp q1 q3
    refine ⟨n', d', ?_, h2, ?_, by simpa [Nat.add_assoc, Nat.add_comm 1] using h4, by simpa [Nat.add_assoc, Nat.add_comm 1] using h5⟩
    · simp only [List.map_cons]
      rw [forL_cons]
      unfold RV.b__law_sum_L0
      simp [m1, m2, m3]
      unfold RV.b__law_sum_L0 at h1
      exact h1
    · rw [h3, List.sum_cons, ← Rat.add_assoc]
      congr 1
      have e2 : x = Rat.divInt x.num x.den := (Rat.num_divInt_den x).symm
      conv => rhs; rhs; rw [e2]
      rw [Rat.divInt_add_divInt _ _ (by omega) (by omega)]
theorem sum_eqN {k : Nat} {xs : List Rat} (h : Bts k xs) (hk : xs.length * (k + 2) + 1 + k ≤ 13300) : RV.m__law_sum [rql xs] = .ok (rq xs.sum) ∧ Bt (xs.length * (k + 2) + 1) xs.sum := by
  obtain ⟨n, d, h1, h2, h3, h4, h5⟩ := sum_loop hk xs 0 0 1 (rql xs) h (by omega) (by decide) (by simp) (by simp)
  rw [Nat.zero_add] at h4 h5
  have e := low_eq h2 (p2 h4 (by omega)) (p2 h5 (by omega))
  have e0 : Rat.divInt 0 1 + xs.sum = xs.sum := by rw [Rat.zero_divInt, Rat.zero_add]
  rw [e0] at h3
  rw [h3] at e
  refine ⟨?_, ?_⟩
  · unfold RV.m__law_sum
    rw [mDef_eq]
    unfold RV.b__law_sum
    simp [h1, e]
  · rw [← h3]
    exact .of (by omega) h4 h5
theorem small_bits {a k : Nat} (ha : a ≤ 16) (hk : k ≤ 700) : a * (k + 2) + 1 + k ≤ 13300 := by
  have : a * (k + 2) ≤ 16 * 702 := Nat.mul_le_mul ha (by omega)
  omega
theorem sum_eq {k : Nat} {xs : List Rat} (h : Bts k xs) (hk : k ≤ 700 := by decide) (hl : xs.length ≤ 16 := by simp) : RV.m__law_sum [rql xs] = .ok (rq xs.sum) := (sum_eqN h (small_bits hl hk)).1
theorem sum_bt {k : Nat} {xs : List Rat} (h : Bts k xs) (hk : k ≤ 700 := by decide) (hl : xs.length ≤ 16 := by simp) : Bt (xs.length * (k + 2) + 1) xs.sum := (sum_eqN h (small_bits hl hk)).2
theorem ltimes_eq {k l : Nat} {x y : Rat} (h1 : Bt k x) (h2 : Bt l y) (h : k + l ≤ 13400 := by decide) : RV.m__law_times [rq x, rq y] = .ok (rq (x * y)) := by
  unfold RV.m__law_times
  rw [mDef_eq]
  unfold RV.b__law_times
  have m1 := mx h1.n h2.n (by omega)
  have m3 := mx (nd h1) (nd h2) (by omega)
  have b1 := mul_bitsI h1.n h2.n
  have b3 := mul_bitsI (nd h1) (nd h2)
  have e := low_eq (n := x.num * y.num) (d := x.den * y.den) den_mul_pos (p2 b1 (by omega)) (p2 b3 (by omega))
  simp [m1, m3, e, mul_eqD]
/-! ### products -/
def dot (r v : List Rat) : Rat := ((List.range v.length).map fun i => at0 r i * at0 v i).sum
def mulv (rows : List (List Rat)) (v : List Rat) : List Rat := rows.map fun r => dot r v
theorem Bt.zero {k : Nat} (h : 0 < k) : Bt k 0 := ⟨Nat.two_pow_pos k, Nat.one_lt_two_pow (by omega)⟩
theorem Bts.at0 {k : Nat} {xs : List Rat} (h : Bts k xs) (i : Nat) (k0 : 0 < k := by decide) : Bt k (MR.at0 xs i) := by
  unfold MR.at0
  rw [List.getD_eq_getElem?_getD]
  cases q : xs[i]? with
  | none => exact .zero k0
  | some x => exact h x (List.mem_of_getElem? q)
theorem Bts.range {k n : Nat} {f : Nat → Rat} (h : ∀ i, i < n → Bt k (f i)) : Bts k ((List.range n).map f) := fun x hx => by
  obtain ⟨i, hi, rfl⟩ := List.mem_map.mp hx
  exact h i (List.mem_range.mp hi)
theorem lcL_from {α : Type} {a : ME} {b : MB} {μ : List Mode} {ρ : List D} {f g : α → D} : ∀ (xs : List α) (acc : List D), (∀ x ∈ xs, ∃ ρ1 ρ3, b (f x) ρ = some ρ1 ∧ a ρ1 = .ok (g x) ρ3 ∧ keep μ ρ3 = ρ) → acc.length + xs.length ≤ 1000000 →
    lcL b mYes a μ (xs.map f) acc ρ = .ok (.lst (acc ++ xs.map g)) ρ
  | [], acc, _, _ => by simp
  | x :: xs, acc, h, hl => by
    obtain ⟨ρ1, ρ3, h1, h2, h3⟩ := h x List.mem_cons_self
    simp only [List.length_cons] at hl
    show lcL b mYes a μ (f x :: xs.map f) acc ρ = _
    unfold lcL
    rw [h1]
    simp only [mYes_eq, h2]
    rw [if_pos (by omega), h3, lcL_from xs (acc ++ [g x]) (fun y hy => h y (List.mem_cons_of_mem _ hy)) (by simp; omega)]
    simp
theorem lcL_of {α : Type} {a : ME} {b : MB} {μ : List Mode} {ρ : List D} {f g : α → D} (xs : List α) (h : ∀ x ∈ xs, ∃ ρ1 ρ3, b (f x) ρ = some ρ1 ∧ a ρ1 = .ok (g x) ρ3 ∧ keep μ ρ3 = ρ) (hl : xs.length ≤ 1000000 := by first | omega | (simp; omega)) :
    lcL b mYes a μ (xs.map f) [] ρ = .ok (.lst (xs.map g)) ρ := lcL_from xs [] h (by simpa using hl)
/-- a comprehension over range(n) -/
theorem lcL_range {a : ME} {μ : List Mode} {ρ : List D} {i n : Nat} {g : Nat → D} (h : ∀ j, j < n → ∃ ρ3, a (ρ.set i (.int (j : Int))) = .ok (g j) ρ3 ∧ keep μ ρ3 = ρ) (hn : n ≤ 1000000 := by first | omega | (simp; omega)) :
    lcL (bName i) mYes a μ (ilist 0 n) [] ρ = .ok (.lst ((List.range n).map g)) ρ := by
  have := lcL_map (a := a) (b := bName i) (μ := μ) (ρ := ρ) (fun d => g d.nat) (ilist 0 n) (fun d hd => by
    obtain ⟨j, hj, rfl⟩ := mem_ilist hd
    rw [Int.zero_add]
    obtain ⟨ρ3, h1, h2⟩ := h j hj
    exact ⟨_, ρ3, rfl, by simpa [D.nat] using h1, h2⟩) (by simpa [ilist] using hn)
  rw [this, ilist_map (g := g) fun j _ => by simp [D.nat]]
theorem map_range_rq {n : Nat} {f : Nat → Rat} : (List.range n).map (fun i => rq (f i)) = ((List.range n).map f).map rq := by rw [List.map_map]; rfl
/-- .. where the element leaves the slots as they are -/
theorem lcR {a : ME} {μ : List Mode} {ρ : List D} {i n : Nat} (g : Nat → D) (h : ∀ j, j < n → a (ρ.set i (.int (j : Int))) = .ok (g j) (ρ.set i (.int (j : Int)))) (hn : n ≤ 1000000 := by first | omega | (simp; omega)) (hk : ∀ d, keep μ (ρ.set i d) = ρ := by intro _; rfl) :
    lcL (bName i) mYes a μ (ilist 0 n) [] ρ = .ok (.lst ((List.range n).map g)) ρ := lcL_range (fun j hj => ⟨_, h j hj, hk _⟩) hn
theorem lcX {α : Type} {a : ME} {μ : List Mode} {ρ : List D} {i : Nat} {f : α → D} (g : α → D) (xs : List α) (h : ∀ x ∈ xs, a (ρ.set i (f x)) = .ok (g x) (ρ.set i (f x))) (hl : xs.length ≤ 1000000 := by first | omega | (simp; omega)) (hk : ∀ d, keep μ (ρ.set i d) = ρ := by intro _; rfl) :
    lcL (bName i) mYes a μ (xs.map f) [] ρ = .ok (.lst (xs.map g)) ρ := lcL_of xs (fun x hx => ⟨_, _, rfl, h x hx, hk _⟩) hl
theorem dot_btN {k l : Nat} {r v : List Rat} (hr : Bts k r) (hv : Bts l v) (k0 : 0 < k) (l0 : 0 < l) (hk : v.length * (k + l + 2) + 1 + (k + l) ≤ 13300) : Bt (v.length * (k + l + 2) + 1) (dot r v) := by
  have := (sum_eqN (k := k + l) (xs := (List.range v.length).map fun i => at0 r i * at0 v i) (.range fun i _ => (hr.at0 i k0).mul (hv.at0 i l0)) (by simpa using hk)).2
  simpa [dot] using this
theorem dot_bt {k : Nat} {r v : List Rat} (hr : Bts k r) (hv : Bts k v) (k0 : 0 < k := by decide) (hk : k + k ≤ 700 := by decide) (hl : v.length ≤ 16 := by omega) : Bt (v.length * (k + k + 2) + 1) (dot r v) := dot_btN hr hv k0 k0 (small_bits hl hk)
theorem at0_range {n m : Nat} {g : Nat → Rat} (h : m < n) : at0 ((List.range n).map g) m = g m := by
  unfold at0
  rw [List.getD_eq_getElem?_getD, List.getElem?_map, List.getElem?_range h]
  rfl
theorem lproduct_eqN {k l : Nat} {rows : List (List Rat)} {v : List Rat} (hr : ∀ r ∈ rows, Bts k r ∧ v.length ≤ r.length) (hv : Bts l v) (k0 : 0 < k) (l0 : 0 < l) (hk : v.length * (k + l + 2) + 1 + (k + l) ≤ 13300) (hl : v.length ≤ 1000) (hn : rows.length ≤ 1000) :
    RV.m__law_product [rqm rows, rql v] = .ok (rql (mulv rows v)) := by
  have c1 : (v.length : Int) ≤ 1000000 := by omega
  have c2 : -1000000 ≤ (v.length : Int) := by omega
  have inner : ∀ r ∈ rows, RV.b__law_product_C1 [rqm rows, rql v, rql r, .non] = .ok (rql ((List.range v.length).map fun i => at0 r i * at0 v i)) [rqm rows, rql v, rql r, .non] := by
    intro r hm
    obtain ⟨b, le⟩ := hr r hm
    unfold RV.b__law_product_C1
    simp [c1, c2]
    rw [lcL_range (g := fun i => rq (at0 r i * at0 v i)), rql_range]
    intro j hj
    have t := ltimes_eq (b.at0 j k0) (hv.at0 j l0) (by omega)
    exact ⟨[rqm rows, rql v, rql r, .int j], by unfold RV.b__law_product_C1e; simp [ix_rql (xs := r) (i := j) (by omega), ix_rql hj, t], rfl⟩
  have outer : RV.b__law_product_C0 [rqm rows, rql v, .non, .non] = .ok (rql (mulv rows v)) [rqm rows, rql v, .non, .non] := by
    unfold RV.b__law_product_C0
    simp
    rw [lcL_of (g := fun r => rq (dot r v)) rows, rql_map]
    · rfl
    intro r hm
    have t := (sum_eqN (k := k + l) (xs := (List.range v.length).map fun i => at0 r i * at0 v i) (.range fun i _ => ((hr r hm).1.at0 i k0).mul (hv.at0 i l0)) (by simpa using hk)).1
    have i1 := inner r hm
    refine ⟨_, [rqm rows, rql v, rql r, .non], rfl, ?_, rfl⟩
    unfold RV.b__law_product_C0e
    simp [i1, t, dot]
  unfold RV.m__law_product
  rw [mDef_eq]
  unfold RV.b__law_product
  simp [outer]
theorem lproduct_eq {k : Nat} {rows : List (List Rat)} {v : List Rat} (hr : ∀ r ∈ rows, Bts k r ∧ v.length ≤ r.length) (hv : Bts k v) (k0 : 0 < k := by decide) (hk : k + k ≤ 700 := by decide) (hl : v.length ≤ 16 := by omega) (hn : rows.length ≤ 1000 := by omega) :
    RV.m__law_product [rqm rows, rql v] = .ok (rql (mulv rows v)) := lproduct_eqN hr hv k0 k0 (small_bits hl hk) (by omega) hn
theorem zip_at {r v : List Rat} (h : v.length = r.length) : List.zipWith (fun u w => D.tup [u, w]) (r.map rq) (v.map rq) = (List.range v.length).map fun i => D.tup [rq (at0 r i), rq (at0 v i)] := by
  refine List.ext_getElem (by simp [h]) fun i h1 h2 => ?_
  have i1 : i < v.length := by simpa using h2
  have i2 : i < r.length := by omega
  simp [at0, List.getElem?_eq_getElem i1, List.getElem?_eq_getElem i2]
theorem sum_snoc (xs : List Rat) (y : Rat) : (xs ++ [y]).sum = xs.sum + y := by
  induction xs with
  | nil => simp [Rat.add_zero, Rat.zero_add]
  | cons x xs ih => rw [List.cons_append, List.sum_cons, List.sum_cons, ih, Rat.add_assoc]
/-- the sums that the program's product builds, step by step -/
theorem psum_loop {k l N : Nat} (k0 : 0 < k) (l0 : 0 < l) (hk : N * (k + l + 2) + 1 + (k + l) ≤ 13300) {rows : List (List Rat)} {r v : List Rat} {acc : D} (hr : Bts k r) (hv : Bts l v) : ∀ (n i : Nat) (s : Rat), i + n ≤ N → Bt (i * (k + l + 2) + 1) s →
    forL (bTup 2 (bCons (bName 5) (bCons (bName 6) bNil))) RV.b_product_L1 ((List.range' i n).map fun i => D.tup [rq (at0 r i), rq (at0 v i)]) [rqm rows, rql v, acc, rql r, rq s, .non, .non] = .nx [rqm rows, rql v, acc, rql r, rq (s + ((List.range' i n).map fun i => at0 r i * at0 v i).sum), .non, .non]
  | 0, i, s, _, _ => by simp [Rat.add_zero]
  | n + 1, i, s, hn, hb => by
    have b1 := (hr.at0 i k0).mul (hv.at0 i l0)
    have l1 : i * (k + l + 2) ≤ N * (k + l + 2) := Nat.mul_le_mul (by omega) (Nat.le_refl _)
    have t := times_eq (hr.at0 i k0) (hv.at0 i l0) (by omega)
    have ad := add_eq hb b1 (by omega)
    have e : (i + 1) * (k + l + 2) + 1 = i * (k + l + 2) + 1 + (k + l) + 1 + 1 := by rw [Nat.add_mul]; omega
    have b2 : Bt ((i + 1) * (k + l + 2) + 1) (s + at0 r i * at0 v i) := (hb.addl b1).mono (by omega)
    have ih := psum_loop k0 l0 hk (rows := rows) (acc := acc) hr hv n (i + 1) _ (by omega) b2
    rw [List.range'_succ, List.map_cons, List.map_cons, forL_cons, List.sum_cons, ← Rat.add_assoc]
    unfold RV.b_product_L1 at ih ⊢
    simp [t, ad]
    exact ih
theorem prow {k l : Nat} {rows : List (List Rat)} {r v acc : List Rat} (hr : Bts k r) (hv : Bts l v) (le : v.length = r.length) (k0 : 0 < k) (l0 : 0 < l) (hk : v.length * (k + l + 2) + 1 + (k + l) ≤ 13300) (ha : acc.length < 1000) :
    RV.b_product_L0 [rqm rows, rql v, rql acc, rql r, .non, .non, .non] = .nx [rqm rows, rql v, rql (acc ++ [dot r v]), .non, .non, .non, .non] := by
  have lp := psum_loop k0 l0 hk (rows := rows) (acc := rql acc) hr hv v.length 0 0 (by omega) (by simpa using Bt.zero (k := 1) (by decide))
  rw [Rat.zero_add, ← List.range_eq_range'] at lp
  have z : D.tup [.int 0, .int 1] = rq 0 := rfl
  have ha' : acc.length < 1000000 := by omega
  unfold RV.b_product_L0
  simp [zip2, zip_at le, z, lp, ha', rql_snoc]
  rfl
theorem product_eqN {k l : Nat} {rows : List (List Rat)} {v : List Rat} (hr : ∀ r ∈ rows, Bts k r ∧ v.length = r.length) (hv : Bts l v) (k0 : 0 < k) (l0 : 0 < l) (hk : v.length * (k + l + 2) + 1 + (k + l) ≤ 13300) (hn : rows.length ≤ 900) :
    RV.m_product [rqm rows, rql v] = .ok (rql (mulv rows v)) := by
  have go : ∀ (rs : List (List Rat)) (acc : List Rat), (∀ r ∈ rs, Bts k r ∧ v.length = r.length) → acc.length + rs.length ≤ 900 → forL (bName 3) RV.b_product_L0 (rs.map rql) [rqm rows, rql v, rql acc, .non, .non, .non, .non] = .nx [rqm rows, rql v, rql (acc ++ mulv rs v), .non, .non, .non, .non] := by
    intro rs
    induction rs with
    | nil => intro acc _ _; simp [mulv]
    | cons r rs ih =>
      intro acc h hn
      simp only [List.length_cons] at hn
      have h1 := h r List.mem_cons_self
      rw [List.map_cons, forL_cons]
      have p := prow (rows := rows) (acc := acc) h1.1 hv h1.2 k0 l0 hk (by omega)
      simp [p]
      rw [ih _ (fun r' hr' => h r' (List.mem_cons_of_mem _ hr')) (by simp; omega)]
      simp [mulv]
  have g := go rows [] hr (by simpa using hn)
  unfold RV.m_product
  rw [mDef_eq]
  unfold RV.b_product
  simp [rql_nil, g]
theorem product_eq {k : Nat} {rows : List (List Rat)} {v : List Rat} (hr : ∀ r ∈ rows, Bts k r ∧ v.length = r.length) (hv : Bts k v) (k0 : 0 < k := by decide) (hk : k + k ≤ 700 := by decide) (hl : v.length ≤ 16 := by omega) (hn : rows.length ≤ 900 := by omega) :
    RV.m_product [rqm rows, rql v] = .ok (rql (mulv rows v)) := product_eqN hr hv k0 k0 (small_bits hl hk) hn
/-- a comprehension over range(n) with a test -/
theorem lcRf_aux {t : MT} {a : ME} {μ : List Mode} {ρ : List D} {i : Nat} (p : Nat → Bool) (g : Nat → D) (hk : ∀ d, keep μ (ρ.set i d) = ρ) : ∀ (xs : List Nat) (acc : List D), (∀ j ∈ xs, t (ρ.set i (.int (j : Int))) = .ok (p j) (ρ.set i (.int (j : Int))) ∧ (p j = true → a (ρ.set i (.int (j : Int))) = .ok (g j) (ρ.set i (.int (j : Int))))) → acc.length + xs.length ≤ 1000000 →
    lcL (bName i) t a μ (xs.map fun (j : Nat) => D.int (0 + (j : Int))) acc ρ = .ok (.lst (acc ++ (xs.filter p).map g)) ρ
  | [], acc, _, _ => by simp
  | j :: xs, acc, h, hl => by
    obtain ⟨h1, h2⟩ := h j List.mem_cons_self
    simp only [List.length_cons] at hl
    rw [List.map_cons]
    unfold lcL
    rw [bName_eq, Int.zero_add]
    simp only [h1]
    cases q : p j with
    | false =>
      simp only
      rw [hk, lcRf_aux p g hk xs acc (fun x hx => h x (List.mem_cons_of_mem _ hx)) (by omega)]
      simp [q]
    | true =>
      simp only [h2 q]
      rw [if_pos (by omega), hk, lcRf_aux p g hk xs (acc ++ [g j]) (fun x hx => h x (List.mem_cons_of_mem _ hx)) (by simp; omega)]
      simp [q]
theorem lcRf {t : MT} {a : ME} {μ : List Mode} {ρ : List D} {i n : Nat} (p : Nat → Bool) (g : Nat → D) (h : ∀ j, j < n → t (ρ.set i (.int (j : Int))) = .ok (p j) (ρ.set i (.int (j : Int))) ∧ (p j = true → a (ρ.set i (.int (j : Int))) = .ok (g j) (ρ.set i (.int (j : Int))))) (hn : n ≤ 1000000 := by first | omega | (simp; omega)) (hk : ∀ d, keep μ (ρ.set i d) = ρ := by intro _; rfl) :
    lcL (bName i) t a μ (ilist 0 n) [] ρ = .ok (.lst (((List.range n).filter p).map g)) ρ := by
  rw [show ilist 0 n = (List.range n).map fun (j : Nat) => D.int (0 + (j : Int)) from rfl, lcRf_aux p g hk (List.range n) [] (fun j hj => h j (List.mem_range.mp hj)) (by simpa using hn)]
  rfl
/-- without its sign -/
def ra (x : Rat) : Rat := if x < 0 then -x else x
theorem num_neg_iff {x : Rat} : x.num < 0 ↔ x < 0 := by
  have := Rat.lt_iff x 0
  simp at this
  exact this.symm
theorem rq_abs {x : Rat} : (.tup [.int (x.num.natAbs : Int), .int x.den] : D) = rq (ra x) := by
  unfold ra
  by_cases h : x < 0
  · have h2 : x.num < 0 := num_neg_iff.mpr h
    rw [if_pos h]
    simp only [rq, Rat.neg_num, Rat.neg_den]
    rw [show ((x.num.natAbs : Nat) : Int) = -x.num by omega]
  · have h2 : ¬ x.num < 0 := fun z => h (num_neg_iff.mp z)
    rw [if_neg h]
    rw [show ((x.num.natAbs : Nat) : Int) = x.num by omega]
theorem rq_neg {x : Rat} : (.tup [.int (0 - x.num), .int x.den] : D) = rq (-x) := by
  simp only [rq, Rat.neg_num, Rat.neg_den, Int.zero_sub]
theorem ra_bt {k : Nat} {x : Rat} (h : Bt k x) : Bt k (ra x) := by
  unfold ra
  split
  · exact ⟨by simpa using h.n, h.d⟩
  · exact h
theorem ra_nonneg (x : Rat) : 0 ≤ ra x := by
  unfold ra
  split <;> grind
theorem ra_neg (x : Rat) : ra (-x) = ra x := by
  unfold ra
  split <;> split <;> grind
theorem ra_zero {x : Rat} : ra x = 0 ↔ x = 0 := by
  unfold ra
  split <;> grind
theorem ra_mul (x y : Rat) : ra (x * y) = ra x * ra y := by
  have h1 : ∀ a b : Rat, 0 ≤ a → 0 ≤ b → 0 ≤ a * b := fun a b => Rat.mul_nonneg
  unfold ra
  by_cases hx : x < 0
  · by_cases hy : y < 0
    · have := h1 (-x) (-y) (by grind) (by grind)
      have e : ¬ x * y < 0 := by grind
      simp [hx, hy, e]
      grind
    · have := h1 (-x) y (by grind) (by grind)
      by_cases e : x * y < 0
      · simp [hx, hy, e]; grind
      · simp [hx, hy, e]; grind
  · by_cases hy : y < 0
    · have := h1 x (-y) (by grind) (by grind)
      by_cases e : x * y < 0
      · simp [hx, hy, e]; grind
      · simp [hx, hy, e]; grind
    · have := h1 x y (by grind) (by grind)
      have e : ¬ x * y < 0 := by grind
      simp [hx, hy, e]
theorem ra_add (x y : Rat) : ra (x + y) ≤ ra x + ra y := by
  unfold ra
  split <;> split <;> split <;> grind
end MR

set_option Elab.async false
set_option linter.all false
set_option maxRecDepth 100000
set_option maxHeartbeats 1000000
/-! PS: the program's solve: rows of ratios over a common denominator; what solve tells. -/
namespace MR
open PySem L2
/-! ### ratios over a denominator -/
/-- x is m / D with |m| below 2^b -/
def Cd (D b : Nat) (x : Rat) : Prop := ∃ m : Int, x = Rat.divInt m D ∧ m.natAbs < 2 ^ b
theorem Cd.bt {D b : Nat} {x : Rat} (h : Cd D b x) (h0 : 0 < D) (hD : D < 2 ^ b) : Bt b x := by
  obtain ⟨m, rfl, hm⟩ := h
  exact .of (by omega) hm (by simpa using hD)
/-- a row: all its parts over one denominator below 2^b -/
def Rw (b n : Nat) (f : Nat → Rat) : Prop := ∃ D : Nat, 0 < D ∧ D < 2 ^ b ∧ ∀ c, c < n → Cd D b (f c)
theorem Rw.bt {b n : Nat} {f : Nat → Rat} (h : Rw b n f) {c : Nat} (hc : c < n) : Bt b (f c) := by
  obtain ⟨D, h0, hD, hf⟩ := h
  exact (hf c hc).bt h0 hD
theorem Rw.mono {b d n : Nat} {f : Nat → Rat} (h : Rw b n f) (e : b ≤ d) : Rw d n f := by
  obtain ⟨D, h0, hD, hf⟩ := h
  refine ⟨D, h0, p2 hD e, fun c hc => ?_⟩
  obtain ⟨m, e1, e2⟩ := hf c hc
  exact ⟨m, e1, p2 e2 e⟩
theorem elim_key (d1 d2 w s v a u : Rat) (h1 : d1 ≠ 0) (h2 : d2 ≠ 0) (h3 : w ≠ 0) (h4 : s ≠ 0) : v / d1 - (a / d1) / (w / d2) * (u / d2) = s * (v * w - a * u) / (d1 * (s * w)) := by grind
/-- a row less a multiple of another one -/
theorem Rw.elim {b n at' : Nat} {f g : Nat → Rat} (hf : Rw b n f) (hg : Rw b n g) (ha : at' < n) (h0 : g at' ≠ 0) : Rw (b + b + 1) n fun c => f c - f at' / g at' * g c := by
  obtain ⟨D, D0, hD, hF⟩ := hf
  obtain ⟨D', D0', hD', hG⟩ := hg
  obtain ⟨a, ea, ha1⟩ := hF at' ha
  obtain ⟨w, ew, hw⟩ := hG at' ha
  have w0 : w ≠ 0 := fun z => h0 (by rw [ew, z, Rat.zero_divInt])
  have hDw : D * w.natAbs < 2 ^ (b + b + 1) := p2 (mul_bits hD hw) (by omega)
  refine ⟨D * w.natAbs, Nat.mul_pos D0 (by omega), hDw, fun c hc => ?_⟩
  obtain ⟨v, ev, hv⟩ := hF c hc
  obtain ⟨u, eu, hu⟩ := hG c hc
  obtain ⟨s, hs, es⟩ : ∃ s : Int, (s = 1 ∨ s = -1) ∧ (w.natAbs : Int) = s * w := by
    by_cases h : 0 < w
    · exact ⟨1, .inl rfl, by omega⟩
    · exact ⟨-1, .inr rfl, by omega⟩
  refine ⟨s * (v * w - a * u), ?_, ?_⟩
  · show f c - f at' / g at' * g c = _
    rw [ev, ea, ew, eu]
    have hn : ∀ (x : Int) (y : Int), Rat.divInt x y = (x : Rat) / (y : Rat) := Rat.divInt_eq_div
    have e3 : ((D * w.natAbs : Nat) : Int) = (D : Int) * (s * w) := by rw [Int.natCast_mul, es]
    rw [e3]
    simp only [hn]
    have dD : ((D : Int) : Rat) ≠ 0 := fun z => by
      have : (D : Int) = 0 := by exact_mod_cast z
      omega
    have dD' : ((D' : Int) : Rat) ≠ 0 := fun z => by
      have : (D' : Int) = 0 := by exact_mod_cast z
      omega
    have dw : (w : Rat) ≠ 0 := fun z => w0 (by exact_mod_cast z)
    have ds : (s : Rat) ≠ 0 := fun z => by
      have : s = 0 := by exact_mod_cast z
      omega
    have c1 : ((s * (v * w - a * u) : Int) : Rat) = (s : Rat) * ((v : Rat) * w - a * u) := by push_cast; rfl
    have c2 : (((D : Int) * (s * w) : Int) : Rat) = ((D : Int) : Rat) * ((s : Rat) * w) := by push_cast; rfl
    rw [c1, c2]
    exact elim_key _ _ _ _ _ _ _ dD dD' dw ds
  · have z1 := mul_bitsI hv hw
    have z2 := mul_bitsI ha1 hu
    have z3 := sub_bitsI z1 z2
    rcases hs with rfl | rfl
    · rw [Int.one_mul]; exact z3
    · rw [Int.neg_one_mul, Int.natAbs_neg]; exact z3
/-! ### sums over columns -/
def sm (n : Nat) (f : Nat → Rat) : Rat := ((List.range n).map f).sum
theorem sm_zero (f : Nat → Rat) : sm 0 f = 0 := rfl
theorem sm_succ (n : Nat) (f : Nat → Rat) : sm (n + 1) f = sm n f + f n := by
  unfold sm
  rw [List.range_succ, List.map_append, List.map_singleton, sum_snoc]
theorem sm_congr {n : Nat} {f g : Nat → Rat} (h : ∀ c, c < n → f c = g c) : sm n f = sm n g := by
  unfold sm
  congr 1
  exact List.map_congr_left fun c hc => h c (List.mem_range.mp hc)
theorem sm_none {n : Nat} {f : Nat → Rat} (h : ∀ c, c < n → f c = 0) : sm n f = 0 := by
  induction n with
  | zero => rfl
  | succ n ih => rw [sm_succ, ih fun c hc => h c (by omega), h n (by omega), Rat.add_zero]
theorem sm_one {n i : Nat} {f : Nat → Rat} (hi : i < n) (h : ∀ c, c < n → c ≠ i → f c = 0) : sm n f = f i := by
  induction n with
  | zero => omega
  | succ n ih =>
    rw [sm_succ]
    by_cases e : i = n
    · subst e
      rw [sm_none fun c hc => h c (by omega) (by omega), Rat.zero_add]
    · rw [ih (by omega) fun c hc => h c (by omega), h n (by omega) (fun z => e z.symm), Rat.add_zero]
theorem sm_sub_mul {n : Nat} {f g z : Nat → Rat} {k : Rat} : sm n (fun c => (f c - k * g c) * z c) = sm n (fun c => f c * z c) - k * sm n (fun c => g c * z c) := by
  induction n with
  | zero => rw [sm_zero, sm_zero, sm_zero]; grind
  | succ n ih => rw [sm_succ, sm_succ, sm_succ, ih]; grind
/-! ### tables -/
abbrev Tb := Nat → Nat → Rat
def Hom (n : Nat) (T : Tb) (z : Nat → Rat) : Prop := ∀ r, r < n → sm (n + 1) (fun c => T r c * z c) = 0
def swapT (T : Tb) (i j : Nat) : Tb := fun r => if r = i then T j else if r = j then T i else T r
def elimT (T : Tb) (i k : Nat) : Tb := fun r => if r ≠ i ∧ r < k then fun c => T r c - T r i / T i i * T i c else T r
theorem hom_swap {n i j : Nat} {T : Tb} {z : Nat → Rat} (hi : i < n) (hj : j < n) : Hom n (swapT T i j) z ↔ Hom n T z := by
  constructor
  · intro h r hr
    by_cases e : r = i
    · have := h j hj
      unfold swapT at this
      by_cases e2 : j = i
      · subst e2; subst e; simpa using this
      · simp [e2] at this; rw [e]; exact this
    · by_cases e2 : r = j
      · have := h i hi
        unfold swapT at this
        simp at this
        rw [e2]; exact this
      · have := h r hr
        unfold swapT at this
        simpa [e, e2] using this
  · intro h r hr
    unfold swapT
    by_cases e : r = i
    · simp [e]; exact h j hj
    · by_cases e2 : r = j
      · simp [e, e2]
        split
        · exact h j hj
        · exact h i hi
      · simp [e, e2]; exact h r hr
theorem hom_elim {n i : Nat} {T : Tb} {z : Nat → Rat} (hi : i < n) : Hom n (elimT T i n) z ↔ Hom n T z := by
  have own : ∀ c, elimT T i n i c = T i c := fun c => by simp [elimT]
  constructor
  · intro h
    have h0 : sm (n + 1) (fun c => T i c * z c) = 0 := by
      have := h i hi
      rw [sm_congr (g := fun c => T i c * z c) fun c _ => by rw [own]] at this
      exact this
    intro r hr
    by_cases e : r = i
    · rw [e]; exact h0
    · have := h r hr
      rw [sm_congr (g := fun c => (T r c - T r i / T i i * T i c) * z c) fun c _ => by simp [elimT, e, hr], sm_sub_mul, h0] at this
      grind
  · intro h r hr
    by_cases e : r = i
    · rw [sm_congr (g := fun c => T i c * z c) fun c _ => by rw [e, own]]
      exact h i hi
    · rw [sm_congr (g := fun c => (T r c - T r i / T i i * T i c) * z c) fun c _ => by simp [elimT, e, hr], sm_sub_mul, h r hr, h i hi]
      grind
/-! ### the table as data -/
def rowL (n : Nat) (f : Nat → Rat) : List Rat := (List.range n).map f
def tabL (n : Nat) (T : Tb) : List (List Rat) := (List.range n).map fun r => rowL (n + 1) (T r)
theorem rowL_len {n : Nat} {f : Nat → Rat} : (rowL n f).length = n := by simp [rowL]
theorem tabL_len {n : Nat} {T : Tb} : (tabL n T).length = n := by simp [tabL]
theorem rowL_at {n c : Nat} {f : Nat → Rat} (h : c < n) : at0 (rowL n f) c = f c := at0_range h
theorem tabL_row {n r : Nat} {T : Tb} (h : r < n) : row (tabL n T) r = rowL (n + 1) (T r) := by
  unfold row tabL
  rw [List.getD_eq_getElem?_getD, List.getElem?_map, List.getElem?_range h]
  rfl
theorem rowL_congr {n : Nat} {f g : Nat → Rat} (h : ∀ c, c < n → f c = g c) : rowL n f = rowL n g := List.map_congr_left fun c hc => h c (List.mem_range.mp hc)
theorem tabL_congr {n : Nat} {T U : Tb} (h : ∀ r, r < n → T r = U r) : tabL n T = tabL n U := List.map_congr_left fun r hr => by rw [h r (List.mem_range.mp hr)]
theorem tabL_set {n i : Nat} {T : Tb} {f : Nat → Rat} (h : i < n) : (tabL n T).set i (rowL (n + 1) f) = tabL n (fun r => if r = i then f else T r) := by
  unfold tabL
  refine List.ext_getElem (by simp) fun j h1 h2 => ?_
  have hj : j < n := by simpa using h2
  rw [List.getElem_set]
  by_cases e : i = j
  · subst e; simp
  · simp [e, show j ≠ i from fun z => e z.symm]
theorem rqm_set {n i : Nat} {T : Tb} {f : Nat → Rat} (h : i < n) : D.lst (((tabL n T).map rql).set i (rql (rowL (n + 1) f))) = rqm (tabL n (fun r => if r = i then f else T r)) := by
  rw [← tabL_set h]
  unfold rqm
  rw [List.map_set]
theorem ix_tab {n r : Nat} {T : Tb} (h : r < n) : fIx (D.lst ((tabL n T).map rql)) (.int r) = some (rql (rowL (n + 1) (T r))) := by
  have := ix_rqm (xs := tabL n T) (i := r) (by rw [tabL_len]; exact h)
  rw [tabL_row h] at this
  exact this
theorem ix_rowL {n c : Nat} {f : Nat → Rat} (h : c < n) : fIx (rql (rowL n f)) (.int c) = some (rq (f c)) := by
  have := ix_rql (xs := rowL n f) (i := c) (by rw [rowL_len]; exact h)
  rw [rowL_at h] at this
  exact this
theorem ixO_tab {n r : Nat} {T : Tb} (h : r < n) : fIxO (rqm (tabL n T)) (.int r) = some (rql (rowL (n + 1) (T r))) := ix_tab h
@[simp] theorem lenO_rqm {xs : List (List Rat)} {ρ : List D} : lenO (rqm xs) ρ = .ok (.int xs.length) ρ := by unfold rqm; simp
/-- without_column -/
theorem without_eq {b n i : Nat} {f g : Nat → Rat} (hf : Rw b n f) (hg : Rw b n g) (hi : i < n) (h0 : g i ≠ 0) (hb : b + b + b + b ≤ 13300) (hn : n ≤ 1000) : RV.m_without_column [rql (rowL n f), rql (rowL n g), .int i] = .ok (rql (rowL n fun c => f c - f i / g i * g c)) := by
  have o := over_eq (hf.bt hi) (hg.bt hi) h0 (by omega)
  have bp := (hf.bt hi).div (hg.bt hi) h0
  have zl : List.zipWith (fun u v => D.tup [u, v]) ((rowL n f).map rq) ((rowL n g).map rq) = (List.range n).map fun c => D.tup [rq (f c), rq (g c)] := by
    refine List.ext_getElem (by simp [rowL]) fun c h1 h2 => ?_
    simp [rowL]
  have cc : RV.b_without_column_C0 [rql (rowL n f), rql (rowL n g), .int i, rq (f i / g i), .non, .non] = .ok (rql (rowL n fun c => f c - f i / g i * g c)) [rql (rowL n f), rql (rowL n g), .int i, rq (f i / g i), .non, .non] := by
    unfold RV.b_without_column_C0
    simp [zip2, zl]
    rw [lcL_of (f := fun c => D.tup [rq (f c), rq (g c)]) (g := fun c => rq (f c - f i / g i * g c)) (List.range n), rql_range]
    · rfl
    · intro c hc
      have hc := List.mem_range.mp hc
      have t := times_eq bp (hg.bt hc) (by omega)
      have sb := sub_eq (hf.bt hc) (bp.mul (hg.bt hc)) (by omega)
      refine ⟨_, [rql (rowL n f), rql (rowL n g), .int i, rq (f i / g i), rq (f c), rq (g c)], rfl, ?_, rfl⟩
      unfold RV.b_without_column_C0e
      simp [t, sb]
  unfold RV.m_without_column
  rw [mDef_eq]
  unfold RV.b_without_column
  simp [ix_rowL hi, o, cc]
/-! ### one column -/
/-- the slots of solve's loop -/
abbrev sl (t a p o : D) : List D := [.non, .non, t, a, p, o, .non, .non]
def bWh : MT := (mAnd (mCmpT fLt (mVar 4) (mLenO 2)) (mCmpT fEq (mOp fIx (mIxO 2 (mVar 4)) (mVar 3)) (mC (.tup [(.int 0), (.int 1)]))))
theorem zero_rq : (.tup [.int 0, .int 1] : D) = rq 0 := rfl
theorem pivot_loop {n i : Nat} {T : Tb} (hi : i < n) : ∀ (k p : Nat), p + k = n → ∀ fuel, k < fuel → ∃ q : Nat, whileN bWh RV.b_solve_L1 fuel (sl (rqm (tabL n T)) (.int i) (.int p) .non) = .nx (sl (rqm (tabL n T)) (.int i) (.int q) .non) ∧ p ≤ q ∧ q ≤ n ∧ (∀ r, p ≤ r → r < q → T r i = 0) ∧ (q < n → T q i ≠ 0)
  | k, p, hk, 0, hf => by omega
  | 0, p, hk, fuel + 1, hf => by
    have e : p = n := by omega
    subst e
    refine ⟨p, ?_, Nat.le_refl _, Nat.le_refl _, fun r h1 h2 => by omega, fun h => by omega⟩
    rw [whileN_succ]
    have c1 : bWh (sl (rqm (tabL p T)) (.int i) (.int p) .non) = .ok false (sl (rqm (tabL p T)) (.int i) (.int p) .non) := by
      unfold bWh
      simp [tabL_len]
    rw [c1]
    rfl
  | k + 1, p, hk, fuel + 1, hf => by
    have hp : p < n := by omega
    have c1 : bWh (sl (rqm (tabL n T)) (.int i) (.int p) .non) = .ok (decide (T p i = 0)) (sl (rqm (tabL n T)) (.int i) (.int p) .non) := by
      unfold bWh
      simp [tabL_len, hp, ixO_tab hp, ix_rowL (show i < n + 1 by omega), zero_rq]
    rw [whileN_succ, c1]
    by_cases h : T p i = 0
    · obtain ⟨q, h1, h2, h3, h4, h5⟩ := pivot_loop hi k (p + 1) (by omega) fuel (by omega)
      refine ⟨q, ?_, by omega, h3, fun r r1 r2 => ?_, h5⟩
      · rw [decide_eq_true h, wh_t]
        have : RV.b_solve_L1 (sl (rqm (tabL n T)) (.int i) (.int p) .non) = .nx (sl (rqm (tabL n T)) (.int i) (.int (p + 1 : Nat)) .non) := by
          unfold RV.b_solve_L1
          simp
        rw [this, loop_nx]
        exact h1
      · by_cases e : r = p
        · rw [e]; exact h
        · exact h4 r (by omega) r2
    · refine ⟨p, ?_, Nat.le_refl _, by omega, fun r h1 h2 => by omega, fun _ => h⟩
      rw [decide_eq_false h, wh_f]
theorem set_tab {n i : Nat} {T : Tb} {f : Nat → Rat} (h : i < n) : setD ((tabL n T).map rql) (i : Int) (rql (rowL (n + 1) f)) = some (((tabL n T).map rql).set i (rql (rowL (n + 1) f))) := setD_nat (by simp [tabL_len]; exact h)
theorem swap_step {n i q : Nat} {T : Tb} (hi : i < n) (hq : q < n) :
    mAsgT (bTup 2 (bCons (bSetO 2 (mVar 3)) (bCons (bSetO 2 (mVar 4)) bNil))) (mTup (mCons (mIxO 2 (mVar 4)) (mCons (mIxO 2 (mVar 3)) mNil))) (sl (rqm (tabL n T)) (.int i) (.int q) .non) = .nx (sl (rqm (tabL n (swapT T i q))) (.int i) (.int q) .non) := by
  have e : tabL n (fun r => if r = q then T i else if r = i then T q else T r) = tabL n (swapT T i q) := tabL_congr fun r _ => by
    unfold swapT
    by_cases h1 : r = i
    · by_cases h2 : r = q
      · subst h1; subst h2; simp
      · simp [h1, h2]
        intro h3
        exact absurd (h1.trans h3) h2
    · simp [h1]
  rw [← e]
  simp [ixO_tab hi, ixO_tab hq, set_tab hi, rqm_set hi]
  rw [set_tab hq]
  simp [rqm_set hq]
theorem elim_row {b n i k : Nat} {T : Tb} (hi : i < n) (hk : k < n) (h0 : T i i ≠ 0) (hR : ∀ r, r < n → Rw b (n + 1) (T r)) (hb : b + b + b + b ≤ 13300) (hn : n ≤ 900) :
    RV.b_solve_L2 (sl (rqm (tabL n (elimT T i k))) (.int i) .non (.int k)) = .nx (sl (rqm (tabL n (elimT T i (k + 1)))) (.int i) .non .non) := by
  have ek : elimT T i k k = T k := by simp [elimT]
  have ei : elimT T i k i = T i := by simp [elimT]
  unfold RV.b_solve_L2
  by_cases h : k = i
  · have e : tabL n (elimT T i (k + 1)) = tabL n (elimT T i k) := tabL_congr fun r _ => by
      unfold elimT
      by_cases h1 : r = i
      · simp [h1]
      · have : (r < k + 1) = (r < k) := by
          apply propext
          omega
        simp [h1, this]
    rw [e]
    simp [h]
  · have h' : ¬ (k : Int) = (i : Int) := by omega
    have w := without_eq (hR k hk) (hR i hi) (by omega) h0 hb (by omega)
    have e : tabL n (fun r => if r = k then (fun c => T k c - T k i / T i i * T i c) else elimT T i k r) = tabL n (elimT T i (k + 1)) := tabL_congr fun r _ => by
      unfold elimT
      by_cases h1 : r = k
      · subst h1
        simp [h]
      · by_cases h2 : r = i
        · simp [h1, h2, show ¬ i = k from fun z => h z.symm]
        · have : (r < k + 1) = (r < k) := by
            apply propext
            omega
          simp [h1, h2, this]
    simp [h', ixO_tab hk, ixO_tab hi, ek, ei, w, set_tab hk, rqm_set hk, e]
theorem elim_loop {b n i : Nat} {T : Tb} (hi : i < n) (h0 : T i i ≠ 0) (hR : ∀ r, r < n → Rw b (n + 1) (T r)) (hb : b + b + b + b ≤ 13300) (hn : n ≤ 900) :
    forL (bName 5) RV.b_solve_L2 (ilist 0 n) (sl (rqm (tabL n T)) (.int i) .non .non) = .nx (sl (rqm (tabL n (elimT T i n))) (.int i) .non .non) := by
  have z : elimT T i 0 = T := by funext r; simp [elimT]
  have := forL_range (i := 5) (s1 := RV.b_solve_L2) (fun k => sl (rqm (tabL n (elimT T i k))) (.int i) .non .non) n fun k hk => .inl (elim_row hi hk h0 hR hb hn)
  rw [z] at this
  exact this
/-- one column: stuck, or cleared -/
theorem column {b n i : Nat} {T : Tb} (hi : i < n) (hR : ∀ r, r < n → Rw b (n + 1) (T r)) (hb : b + b + b + b ≤ 13300) (hn : n ≤ 900) :
    ((∀ r, i ≤ r → r < n → T r i = 0) ∧ ∃ ρ, RV.b_solve_L0 (sl (rqm (tabL n T)) (.int i) .non .non) = .exc .singular ρ) ∨
    (∃ q, i ≤ q ∧ q < n ∧ T q i ≠ 0 ∧ RV.b_solve_L0 (sl (rqm (tabL n T)) (.int i) .non .non) = .nx (sl (rqm (tabL n (elimT (swapT T i q) i n))) .non .non .non)) := by
  obtain ⟨q, h1, h2, h3, h4, h5⟩ := pivot_loop (T := T) hi (n - i) i (by omega) (n + 1) (by omega)
  unfold bWh at h1
  have fl : (rqm (tabL n T)).size = n := by simp [rqm, tabL_len, D.size]
  by_cases hq : q = n
  · left
    refine ⟨fun r r1 r2 => h4 r r1 (by omega), ?_⟩
    unfold RV.b_solve_L0
    simp [fl, h1, tabL_len, hq]
  · right
    have hq' : q < n := by omega
    have hqi : ¬ (q : Int) = (n : Int) := by omega
    refine ⟨q, h2, hq', h5 hq', ?_⟩
    have sw := swap_step (T := T) hi hq'
    have hR' : ∀ r, r < n → Rw b (n + 1) (swapT T i q r) := fun r hr => by
      unfold swapT
      split
      · exact hR q hq'
      · split
        · exact hR i hi
        · exact hR r hr
    have h0' : swapT T i q i i ≠ 0 := by simp [swapT]; exact h5 hq'
    have el := elim_loop hi h0' hR' hb hn
    have c1 : (n : Int) ≤ 1000000 := by omega
    have c2 : -1000000 ≤ (n : Int) := by omega
    unfold RV.b_solve_L0
    simp [-mAsgT_eq, fl, h1, tabL_len, hqi, sw, c1, c2, el]
/-! ### all columns -/
theorem sm_two {n i j : Nat} {f : Nat → Rat} (hi : i < n) (hj : j < n) (hij : i ≠ j) (h : ∀ c, c < n → c ≠ i → c ≠ j → f c = 0) : sm n f = f i + f j := by
  have e : sm n f = sm n (fun c => if c = i then f i else 0) + sm n (fun c => if c = j then f j else 0) := by
    have ad : ∀ (m : Nat) (u v : Nat → Rat), sm m (fun c => u c + v c) = sm m u + sm m v := fun m u v => by
      induction m with
      | zero => rw [sm_zero, sm_zero, sm_zero, Rat.add_zero]
      | succ m ih => rw [sm_succ, sm_succ, sm_succ, ih]; grind
    rw [← ad]
    refine sm_congr fun c hc => ?_
    by_cases h1 : c = i
    · subst h1; simp [hij, Rat.add_zero]
    · by_cases h2 : c = j
      · subst h2; simp [h1, Rat.zero_add]
      · simp [h1, h2, h c hc h1 h2, Rat.add_zero]
  rw [e, sm_one hi fun c _ hn => by simp [hn], sm_one hj fun c _ hn => by simp [hn]]
  simp
/-- bits at each column -/
def bb (b : Nat) : Nat → Nat
  | 0 => b
  | k + 1 => bb b k + bb b k + 1
theorem bb_le {b : Nat} : ∀ {i n : Nat}, i ≤ n → bb b i ≤ bb b n
  | i, 0, h => by rw [show i = 0 by omega]; exact Nat.le_refl _
  | i, n + 1, h => by
    by_cases e : i = n + 1
    · rw [e]; exact Nat.le_refl _
    · have := bb_le (b := b) (show i ≤ n by omega)
      show bb b i ≤ bb b n + bb b n + 1
      omega
structure Stg (b n : Nat) (T0 : Tb) (i : Nat) (T : Tb) : Prop where
  rw : ∀ r, r < n → Rw (bb b i) (n + 1) (T r)
  dg : ∀ c, c < i → T c c ≠ 0
  zr : ∀ c, c < i → ∀ r, r < n → r ≠ c → T r c = 0
  hm : ∀ z, Hom n T z ↔ Hom n T0 z
theorem Stg.step {b n i q : Nat} {T0 T : Tb} (h : Stg b n T0 i T) (hi : i < n) (h1 : i ≤ q) (hq : q < n) (h0 : T q i ≠ 0) : Stg b n T0 (i + 1) (elimT (swapT T i q) i n) := by
  have uii : swapT T i q i = T q := by simp [swapT]
  have ui0 : ∀ c, c < i → swapT T i q i c = 0 := fun c hc => by rw [uii]; exact h.zr c hc q hq (by omega)
  have ur : ∀ r, r < n → Rw (bb b i) (n + 1) (swapT T i q r) := fun r hr => by
    unfold swapT
    split
    · exact h.rw q hq
    · split
      · exact h.rw i hi
      · exact h.rw r hr
  have uc : ∀ c, c < i → ∀ r, r < n → r ≠ c → swapT T i q r c = 0 := fun c hc r hr hn => by
    unfold swapT
    split
    · exact h.zr c hc q hq (by omega)
    · split
      · exact h.zr c hc i hi (by omega)
      · exact h.zr c hc r hr hn
  have ud : ∀ c, c < i → swapT T i q c c = T c c := fun c hc => by
    unfold swapT
    rw [if_neg (by omega), if_neg (by omega)]
  have el : ∀ r, r < n → r ≠ i → elimT (swapT T i q) i n r = fun c => swapT T i q r c - swapT T i q r i / swapT T i q i i * swapT T i q i c := fun r hr hn => by simp [elimT, hn, hr]
  have eo : elimT (swapT T i q) i n i = swapT T i q i := by simp [elimT]
  refine ⟨fun r hr => ?_, fun c hc => ?_, fun c hc r hr hn => ?_, fun z => ?_⟩
  · by_cases e : r = i
    · rw [e, eo]
      exact (ur i hi).mono (by show bb b i ≤ bb b i + bb b i + 1; omega)
    · rw [el r hr e]
      exact (ur r hr).elim (ur i hi) (by omega) (by rw [uii]; exact h0)
  · by_cases e : c = i
    · rw [e, eo, uii]; exact h0
    · have hc' : c < i := by omega
      rw [el c (by omega) e]
      show swapT T i q c c - _ * swapT T i q i c ≠ 0
      rw [ui0 c hc', ud c hc']
      have := h.dg c hc'
      grind
  · by_cases e : r = i
    · rw [e, eo]
      exact uc c (by omega) i hi (by omega)
    · rw [el r hr e]
      show swapT T i q r c - swapT T i q r i / swapT T i q i i * swapT T i q i c = 0
      by_cases e2 : c = i
      · rw [e2]
        have : swapT T i q i i ≠ 0 := by rw [uii]; exact h0
        grind
      · rw [ui0 c (by omega), uc c (by omega) r hr hn]
        grind
  · rw [hom_elim hi, hom_swap hi hq]
    exact h.hm z
theorem Stg.stuck {b n i : Nat} {T0 T : Tb} (h : Stg b n T0 i T) (hi : i < n) (hz : ∀ r, i ≤ r → r < n → T r i = 0) : ∃ z : Nat → Rat, z n = 0 ∧ (∃ c, c < n ∧ z c ≠ 0) ∧ Hom n T0 z := by
  refine ⟨fun c => if c = i then 1 else if c < i then -(T c i / T c c) else 0, ?_, ⟨i, hi, by simp⟩, ?_⟩
  · simp [show ¬ n = i by omega, show ¬ n < i by omega]
  · rw [← h.hm]
    intro r hr
    by_cases hri : r < i
    · rw [sm_two (i := r) (j := i) (by omega) (by omega) (by omega) fun c hc h1 h2 => ?_]
      · have := h.dg r hri
        simp [show ¬ r = i by omega, hri]
        grind
      · by_cases hci : c < i
        · rw [h.zr c hci r hr (fun z => h1 z.symm), Rat.zero_mul]
        · simp [h2, hci]
    · refine sm_none fun c hc => ?_
      by_cases hci : c = i
      · subst hci
        rw [hz r (by omega) hr, Rat.zero_mul]
      · by_cases hcl : c < i
        · rw [h.zr c hcl r hr (by omega), Rat.zero_mul]
        · simp [hci, hcl]
theorem columns {b n : Nat} {T0 : Tb} (hb : bb b n + bb b n + bb b n + bb b n ≤ 13300) (hn : n ≤ 900) : ∀ (k i : Nat) (T : Tb), i + k = n → Stg b n T0 i T →
    (∃ T', forL (bName 3) RV.b_solve_L0 ((List.range' i k).map fun (j : Nat) => D.int (0 + (j : Int))) (sl (rqm (tabL n T)) .non .non .non) = .nx (sl (rqm (tabL n T')) .non .non .non) ∧ Stg b n T0 n T') ∨
    (∃ ρ, forL (bName 3) RV.b_solve_L0 ((List.range' i k).map fun (j : Nat) => D.int (0 + (j : Int))) (sl (rqm (tabL n T)) .non .non .non) = .exc .singular ρ ∧ ∃ z : Nat → Rat, z n = 0 ∧ (∃ c, c < n ∧ z c ≠ 0) ∧ Hom n T0 z)
  | 0, i, T, hk, h => .inl ⟨T, rfl, by rw [show n = i by omega] at h ⊢; exact h⟩
  | k + 1, i, T, hk, h => by
    have hi : i < n := by omega
    have hbi := bb_le (b := b) (show i ≤ n by omega)
    rw [List.range'_succ, List.map_cons, forL_cons, Int.zero_add, bName_eq, bindO_some]
    rcases column hi h.rw (by omega) hn with ⟨hz, ρ, e⟩ | ⟨q, h1, h2, h3, e⟩
    · right
      refine ⟨ρ, ?_, h.stuck hi hz⟩
      rw [show (sl (rqm (tabL n T)) D.non D.non D.non).set 3 (D.int i) = sl (rqm (tabL n T)) (.int i) .non .non from rfl, e]
      rfl
    · rw [show (sl (rqm (tabL n T)) D.non D.non D.non).set 3 (D.int i) = sl (rqm (tabL n T)) (.int i) .non .non from rfl, e]
      exact columns hb hn k (i + 1) _ (by omega) (h.step hi h1 h2 h3)
/-! ### solve -/
def aug (n : Nat) (M : Tb) (v : Nat → Rat) : Tb := fun r c => if c < n then M r c else v r
def rowsL (n : Nat) (M : Tb) : List (List Rat) := (List.range n).map fun r => rowL n (M r)
theorem rowsL_len {n : Nat} {M : Tb} : (rowsL n M).length = n := by simp [rowsL]
theorem aug_row {n r : Nat} {M : Tb} {v : Nat → Rat} : rowL (n + 1) (aug n M v r) = rowL n (M r) ++ [v r] := by
  unfold rowL aug
  rw [List.range_succ, List.map_append, List.map_singleton, if_neg (Nat.lt_irrefl n)]
  congr 1
  exact List.map_congr_left fun c hc => by rw [if_pos (List.mem_range.mp hc)]
theorem hom_aug {n : Nat} {M : Tb} {v z : Nat → Rat} : Hom n (aug n M v) z ↔ ∀ r, r < n → sm n (fun c => M r c * z c) + v r * z n = 0 := by
  have e : ∀ r, sm (n + 1) (fun c => aug n M v r c * z c) = sm n (fun c => M r c * z c) + v r * z n := fun r => by
    rw [sm_succ, sm_congr (g := fun c => M r c * z c) fun c hc => by simp [aug, hc]]
    simp [aug]
  constructor
  · intro h r hr
    rw [← e]
    exact h r hr
  · intro h r hr
    rw [e]
    exact h r hr
theorem solve_c0 {n : Nat} {M : Tb} {v : Nat → Rat} (hn : n ≤ 900) : RV.b_solve_C0 [rqm (rowsL n M), rql (rowL n v), .non, .non, .non, .non, .non, .non] = .ok (rqm (tabL n (aug n M v))) [rqm (rowsL n M), rql (rowL n v), .non, .non, .non, .non, .non, .non] := by
  have zl : List.zipWith (fun u w => D.tup [u, w]) ((rowsL n M).map rql) ((rowL n v).map rq) = (List.range n).map fun r => D.tup [rql (rowL n (M r)), rq (v r)] := by
    refine List.ext_getElem (by simp [rowsL, rowL]) fun c h1 h2 => ?_
    simp [rowsL, rowL]
  unfold RV.b_solve_C0
  simp [zip2, zl]
  rw [lcL_of (f := fun r => D.tup [rql (rowL n (M r)), rq (v r)]) (g := fun r => rql (rowL (n + 1) (aug n M v r))) (List.range n), rqm_map]
  · rfl
  · intro r hr
    refine ⟨_, [rqm (rowsL n M), rql (rowL n v), .non, .non, .non, .non, rql (rowL n (M r)), rq (v r)], rfl, ?_, rfl⟩
    have ad : fAdd (rql (rowL n (M r))) (.lst [rq (v r)]) = some (rql (rowL (n + 1) (aug n M v r))) := by
      have sz : ((rowL n (M r)).map rq).length + [rq (v r)].length ≤ sizeLine := by
        have := le_line (n := ((rowL n (M r)).map rq).length + [rq (v r)].length) (by simp [rowL]; omega)
        exact this
      show (if _ then _ else _) = _
      rw [if_pos sz, aug_row, rql_snoc]
    unfold RV.b_solve_C0e
    simp [ad]
theorem ix_last {n : Nat} {f : Nat → Rat} : fIx (rql (rowL (n + 1) f)) (.int (-1)) = some (rq (f n)) := by
  show atI ((rowL (n + 1) f).map rq) (-1) = _
  unfold atI ixN
  have l : ((rowL (n + 1) f).map rq).length = n + 1 := by simp [rowL]
  rw [l]
  rw [if_neg (by omega), if_pos (by omega)]
  simp only [Option.bind_some]
  rw [show (-1 + ((n + 1 : Nat) : Int)).toNat = n by omega]
  simp [rowL]
theorem quot_bt {b n : Nat} {f : Nat → Rat} {i j : Nat} (h : Rw b n f) (hi : i < n) (hj : j < n) (h0 : f j ≠ 0) : Bt b (f i / f j) := by
  obtain ⟨D, D0, hD, hf⟩ := h
  obtain ⟨m, e1, h1⟩ := hf i hi
  obtain ⟨w, e2, h2⟩ := hf j hj
  have w0 : w ≠ 0 := fun z => h0 (by rw [e2, z, Rat.zero_divInt])
  have e : f i / f j = Rat.divInt m w := by
    rw [e1, e2, Rat.divInt_eq_div, Rat.divInt_eq_div, Rat.divInt_eq_div]
    have dD : ((D : Int) : Rat) ≠ 0 := fun z => by
      have : (D : Int) = 0 := by exact_mod_cast z
      omega
    have dw : (w : Rat) ≠ 0 := fun z => w0 (by exact_mod_cast z)
    have k : ∀ (a c d : Rat), c ≠ 0 → d ≠ 0 → a / d / (c / d) = a / c := fun a c d h1 h2 => by grind
    exact k _ _ _ dw dD
  rw [e]
  exact .of w0 h1 h2
theorem solve_c1 {b n : Nat} {T0 T : Tb} (h : Stg b n T0 n T) (hb : bb b n + bb b n ≤ 13300) (hn : n ≤ 900) : RV.b_solve_C1 [.non, .non, rqm (tabL n T), .non, .non, .non, .non, .non] = .ok (rql (rowL n fun r => T r n / T r r)) [.non, .non, rqm (tabL n T), .non, .non, .non, .non, .non] := by
  have el : ((tabL n T).map rql).mapIdx (fun i d => D.tup [.int (i : Nat), d]) = (List.range n).map fun (r : Nat) => D.tup [.int r, rql (rowL (n + 1) (T r))] := by
    refine List.ext_getElem (by simp [tabL]) fun c h1 h2 => ?_
    simp [tabL]
  unfold RV.b_solve_C1
  simp [enum1]
  rw [el, lcL_of (f := fun (r : Nat) => D.tup [.int r, rql (rowL (n + 1) (T r))]) (g := fun r => rq (T r n / T r r)) (List.range n), rql_range]
  · rfl
  · intro r hr
    have hr := List.mem_range.mp hr
    have o := over_eq ((h.rw r hr).bt (show n < n + 1 by omega)) ((h.rw r hr).bt (show r < n + 1 by omega)) (h.dg r hr) (by omega)
    refine ⟨_, [.non, .non, rqm (tabL n T), .int r, .non, .non, rql (rowL (n + 1) (T r)), .non], rfl, ?_, rfl⟩
    unfold RV.b_solve_C1e
    simp [ix_last, ix_rowL (show r < n + 1 by omega), o]
theorem solve_eq {b n : Nat} {M : Tb} {v : Nat → Rat} (hR : ∀ r, r < n → Rw b (n + 1) (aug n M v r)) (hb : bb b n + bb b n + bb b n + bb b n ≤ 13300) (hn : n ≤ 900) :
    (∃ x : Nat → Rat, RV.m_solve [rqm (rowsL n M), rql (rowL n v)] = .ok (rql (rowL n x)) ∧ (∀ r, r < n → sm n (fun c => M r c * x c) = v r) ∧ (∀ y : Nat → Rat, (∀ r, r < n → sm n (fun c => M r c * y c) = v r) → ∀ c, c < n → y c = x c) ∧ ∀ c, c < n → Bt (bb b n) (x c)) ∨
    (RV.m_solve [rqm (rowsL n M), rql (rowL n v)] = .exc .singular ∧ ∃ z : Nat → Rat, (∃ c, c < n ∧ z c ≠ 0) ∧ ∀ r, r < n → sm n (fun c => M r c * z c) = 0) := by
  have c0 := solve_c0 (M := M) (v := v) hn
  have c1 : (n : Int) ≤ 1000000 := by omega
  have c2 : -1000000 ≤ (n : Int) := by omega
  have st : Stg b n (aug n M v) 0 (aug n M v) := ⟨hR, fun c hc => absurd hc (Nat.not_lt_zero c), fun c hc => absurd hc (Nat.not_lt_zero c), fun z => Iff.rfl⟩
  rcases columns hb hn n 0 (aug n M v) (by omega) st with ⟨T', e, h⟩ | ⟨ρ, e, z, z1, z2, z3⟩
  · left
    rw [← ilist_from] at e
    have cc := solve_c1 h (by omega) hn
    have hz : ∀ z : Nat → Rat, Hom n T' z ↔ ∀ r, r < n → T' r r * z r + T' r n * z n = 0 := fun z => by
      have es : ∀ r, r < n → sm (n + 1) (fun c => T' r c * z c) = T' r r * z r + T' r n * z n := fun r hr => sm_two (by omega) (by omega) (by omega) fun c hc h1 h2 => by rw [h.zr c (by omega) r hr (fun q => h1 q.symm), Rat.zero_mul]
      exact ⟨fun k r hr => by rw [← es r hr]; exact k r hr, fun k r hr => by rw [es r hr]; exact k r hr⟩
    refine ⟨fun r => T' r n / T' r r, ?_, ?_, ?_, fun c hc => quot_bt (h.rw c hc) (by omega) (by omega) (h.dg c hc)⟩
    · unfold RV.m_solve
      rw [mDef_eq]
      unfold RV.b_solve
      simp [c0, tabL_len, c1, c2, e, cc]
    · have k : Hom n (aug n M v) (fun c => if c = n then -1 else T' c n / T' c c) := by
        rw [← h.hm, hz]
        intro r hr
        have := h.dg r hr
        simp [show ¬ r = n by omega]
        grind
      rw [hom_aug] at k
      intro r hr
      have k2 := k r hr
      rw [sm_congr (g := fun c => M r c * (T' c n / T' c c)) fun c hc => by simp [show ¬ c = n by omega]] at k2
      simp at k2
      grind
    · intro y hy
      have k : Hom n (aug n M v) (fun c => if c = n then -1 else y c) := by
        rw [hom_aug]
        intro r hr
        rw [sm_congr (g := fun c => M r c * y c) fun c hc => by simp [show ¬ c = n by omega], hy r hr]
        simp
        grind
      rw [← h.hm, hz] at k
      intro c hc
      have k2 := k c hc
      have := h.dg c hc
      simp [show ¬ c = n by omega] at k2
      grind
  · right
    rw [← ilist_from] at e
    refine ⟨?_, z, z2, ?_⟩
    · unfold RV.m_solve
      rw [mDef_eq]
      unfold RV.b_solve
      simp [c0, tabL_len, c1, c2, e]
    · rw [hom_aug] at z3
      intro r hr
      have := z3 r hr
      rw [z1, Rat.mul_zero, Rat.add_zero] at this
      exact this
end MR

set_option Elab.async false
set_option linter.all false
set_option maxRecDepth 100000
set_option maxHeartbeats 1000000
/-! PD: dominant rows. -/
namespace MR
open PySem L2
/-- the others of a row together -/
def offs (n : Nat) (f : Nat → Rat) (i : Nat) : Rat := sm n fun c => if c = i then 0 else ra (f c)
def Dom (n : Nat) (M : Tb) : Prop := ∀ r, r < n → offs n (M r) r < ra (M r r)
theorem size_eq {x : Rat} : RV.m_size [rq x] = .ok (rq (ra x)) := by
  unfold RV.m_size
  rw [mDef_eq]
  unfold RV.b_size
  rw [← rq_abs]
  simp
theorem enum_row {n : Nat} {f : Nat → Rat} : ((rowL n f).map rq).mapIdx (fun i d => D.tup [.int (i : Nat), d]) = (List.range n).map fun (c : Nat) => D.tup [.int c, rq (f c)] := by
  refine List.ext_getElem (by simp [rowL]) fun c h1 h2 => ?_
  simp [rowL]
theorem enum_rows {n : Nat} {M : Tb} : ((rowsL n M).map rql).mapIdx (fun i d => D.tup [.int (i : Nat), d]) = (List.range n).map fun (c : Nat) => D.tup [.int c, rql (rowL n (M c))] := by
  refine List.ext_getElem (by simp [rowsL]) fun c h1 h2 => ?_
  simp [rowsL]
theorem dom_loop {k N i : Nat} {Rs rw : D} {f : Nat → Rat} (hk : N * (k + 2) + 1 + k ≤ 13300) (hf : ∀ c, c < N → Bt k (f c)) : ∀ (n j : Nat), j + n ≤ N → Bt (j * (k + 2) + 1) (sm j fun c => if c = i then 0 else ra (f c)) →
    forL (bTup 2 (bCons (bName 4) (bCons (bName 5) bNil))) RV.b_is_dominant_L1 ((List.range' j n).map fun (c : Nat) => D.tup [.int c, rq (f c)]) [Rs, .int i, rw, rq (sm j fun c => if c = i then 0 else ra (f c)), .non, .non] =
      .nx [Rs, .int i, rw, rq (sm (j + n) fun c => if c = i then 0 else ra (f c)), .non, .non]
  | 0, j, _, _ => rfl
  | n + 1, j, hn, hb => by
    have b1 := ra_bt (hf j (by omega))
    have l1 : j * (k + 2) ≤ N * (k + 2) := Nat.mul_le_mul (by omega) (Nat.le_refl _)
    have ad := add_eq hb b1 (by omega)
    have e : (j + 1) * (k + 2) + 1 = j * (k + 2) + 1 + k + 1 + 1 := by rw [Nat.add_mul]; omega
    have nx : sm (j + 1) (fun c => if c = i then 0 else ra (f c)) = (sm j fun c => if c = i then 0 else ra (f c)) + (if j = i then 0 else ra (f j)) := sm_succ _ _
    rw [List.range'_succ, List.map_cons, forL_cons]
    by_cases h : j = i
    · have b2 : Bt ((j + 1) * (k + 2) + 1) (sm (j + 1) fun c => if c = i then 0 else ra (f c)) := by
        rw [nx, if_pos h, Rat.add_zero]
        exact hb.mono (by omega)
      have ih := dom_loop (i := i) (Rs := Rs) (rw := rw) hk hf n (j + 1) (by omega) b2
      rw [nx, if_pos h, Rat.add_zero, show j + 1 + n = j + (n + 1) by omega] at ih
      have t : RV.b_is_dominant_L1 [Rs, .int i, rw, rq (sm j fun c => if c = i then 0 else ra (f c)), .int j, rq (f j)] = .nx [Rs, .int i, rw, rq (sm j fun c => if c = i then 0 else ra (f c)), .non, .non] := by
        unfold RV.b_is_dominant_L1
        simp [h]
      rw [show bTup 2 (bCons (bName 4) (bCons (bName 5) bNil)) (D.tup [.int j, rq (f j)]) [Rs, .int i, rw, rq (sm j fun c => if c = i then 0 else ra (f c)), .non, .non] = some [Rs, .int i, rw, rq (sm j fun c => if c = i then 0 else ra (f c)), .int j, rq (f j)] from rfl, bindO_some, t, loop_nx]
      exact ih
    · have b2 : Bt ((j + 1) * (k + 2) + 1) (sm (j + 1) fun c => if c = i then 0 else ra (f c)) := by
        rw [nx, if_neg h]
        exact (hb.addl b1).mono (by omega)
      have ih := dom_loop (i := i) (Rs := Rs) (rw := rw) hk hf n (j + 1) (by omega) b2
      rw [nx, if_neg h, show j + 1 + n = j + (n + 1) by omega] at ih
      have h' : ¬ (j : Int) = (i : Int) := by omega
      have t : RV.b_is_dominant_L1 [Rs, .int i, rw, rq (sm j fun c => if c = i then 0 else ra (f c)), .int j, rq (f j)] = .nx [Rs, .int i, rw, rq ((sm j fun c => if c = i then 0 else ra (f c)) + ra (f j)), .non, .non] := by
        unfold RV.b_is_dominant_L1
        simp [h', size_eq, ad]
      rw [show bTup 2 (bCons (bName 4) (bCons (bName 5) bNil)) (D.tup [.int j, rq (f j)]) [Rs, .int i, rw, rq (sm j fun c => if c = i then 0 else ra (f c)), .non, .non] = some [Rs, .int i, rw, rq (sm j fun c => if c = i then 0 else ra (f c)), .int j, rq (f j)] from rfl, bindO_some, t, loop_nx]
      exact ih
theorem offs_bt {k n i : Nat} {f : Nat → Rat} (hf : ∀ c, c < n → Bt k (f c)) : Bt (n * (k + 2) + 1) (offs n f i) := by
  have : ∀ m, m ≤ n → Bt (m * (k + 2) + 1) (sm m fun c => if c = i then 0 else ra (f c)) := by
    intro m
    induction m with
    | zero => intro _; exact .zero (by omega)
    | succ m ih =>
      intro hm
      have e : (m + 1) * (k + 2) + 1 = m * (k + 2) + 1 + k + 1 + 1 := by rw [Nat.add_mul]; omega
      rw [sm_succ]
      by_cases h : m = i
      · rw [if_pos h, Rat.add_zero]
        exact (ih (by omega)).mono (by omega)
      · rw [if_neg h]
        exact ((ih (by omega)).addl (ra_bt (hf m (by omega)))).mono (by omega)
  exact this n (Nat.le_refl n)
theorem dom_turn {k n r : Nat} {Rs : D} {f : Nat → Rat} (hk : n * (k + 2) + 1 + k ≤ 13300) (hf : ∀ c, c < n → Bt k (f c)) (hr : r < n) :
    RV.b_is_dominant_L0 [Rs, .int r, rql (rowL n f), .non, .non, .non] = if offs n f r < ra (f r) then .nx [Rs, .non, .non, .non, .non, .non] else .ret (.bl false) [Rs, .int r, rql (rowL n f), rq (offs n f r), .non, .non] := by
  have lp := dom_loop (i := r) (Rs := Rs) (rw := rql (rowL n f)) hk hf n 0 (by omega) (.zero (by omega))
  rw [Nat.zero_add, ← List.range_eq_range'] at lp
  have z : D.tup [.int 0, .int 1] = rq (sm 0 fun c => if c = r then 0 else ra (f c)) := rfl
  have ls := less_eq (offs_bt (i := r) hf) (ra_bt (hf r hr)) (by omega)
  unfold offs at ls ⊢
  unfold RV.b_is_dominant_L0
  by_cases h : (sm n fun c => if c = r then 0 else ra (f c)) < ra (f r)
  · simp [enum1, enum_row, z, lp, ix_rowL hr, size_eq, ls, h]
  · simp [enum1, enum_row, z, lp, ix_rowL hr, size_eq, ls, h]
theorem dominant_eq {k n : Nat} {M : Tb} (hk : n * (k + 2) + 1 + k ≤ 13300) (hM : ∀ r, r < n → ∀ c, c < n → Bt k (M r c)) : ∃ q : Bool, RV.m_is_dominant [rqm (rowsL n M)] = .ok (.bl q) ∧ (q = true ↔ Dom n M) := by
  have go : ∀ (m j : Nat), j + m = n → (∀ r, j ≤ r → r < n → offs n (M r) r < ra (M r r)) ∧ forL (bTup 2 (bCons (bName 1) (bCons (bName 2) bNil))) RV.b_is_dominant_L0 ((List.range' j m).map fun (c : Nat) => D.tup [.int c, rql (rowL n (M c))]) [rqm (rowsL n M), .non, .non, .non, .non, .non] = .nx [rqm (rowsL n M), .non, .non, .non, .non, .non] ∨
      (∃ r, j ≤ r ∧ r < n ∧ ¬ offs n (M r) r < ra (M r r)) ∧ ∃ ρ, forL (bTup 2 (bCons (bName 1) (bCons (bName 2) bNil))) RV.b_is_dominant_L0 ((List.range' j m).map fun (c : Nat) => D.tup [.int c, rql (rowL n (M c))]) [rqm (rowsL n M), .non, .non, .non, .non, .non] = .ret (.bl false) ρ := by
    intro m
    induction m with
    | zero => intro j hj; exact .inl ⟨fun r h1 h2 => by omega, rfl⟩
    | succ m ih =>
      intro j hj
      have hjn : j < n := by omega
      have t := dom_turn (Rs := rqm (rowsL n M)) hk (hM j hjn) hjn
      rw [List.range'_succ, List.map_cons, forL_cons]
      rw [show bTup 2 (bCons (bName 1) (bCons (bName 2) bNil)) (D.tup [.int j, rql (rowL n (M j))]) [rqm (rowsL n M), .non, .non, .non, .non, .non] = some [rqm (rowsL n M), .int j, rql (rowL n (M j)), .non, .non, .non] from rfl, bindO_some, t]
      by_cases h : offs n (M j) j < ra (M j j)
      · rw [if_pos h, loop_nx]
        rcases ih (j + 1) (by omega) with ⟨h1, h2⟩ | ⟨⟨r, h1, h2, h3⟩, h4⟩
        · refine .inl ⟨fun r r1 r2 => ?_, h2⟩
          by_cases e : r = j
          · rw [e]; exact h
          · exact h1 r (by omega) r2
        · exact .inr ⟨⟨r, by omega, h2, h3⟩, h4⟩
      · rw [if_neg h]
        exact .inr ⟨⟨j, Nat.le_refl _, hjn, h⟩, _, rfl⟩
  have g := go n 0 (by omega)
  rw [← List.range_eq_range'] at g
  unfold RV.m_is_dominant
  rw [mDef_eq]
  unfold RV.b_is_dominant
  rcases g with ⟨h1, h2⟩ | ⟨⟨r, h1, h2, h3⟩, ρ, h4⟩
  · exact ⟨true, by simp [enum1, enum_rows, h2], by simp; exact fun r hr => h1 r (Nat.zero_le _) hr⟩
  · exact ⟨false, by simp [enum1, enum_rows, h4], by simp; exact fun hd => h3 (hd r h2)⟩
/-- dominant rows have no kernel -/
theorem sm_ra {n : Nat} {f : Nat → Rat} : ra (sm n f) ≤ sm n fun c => ra (f c) := by
  induction n with
  | zero => rw [sm_zero, sm_zero]; decide
  | succ n ih =>
    rw [sm_succ, sm_succ]
    have := ra_add (sm n f) (f n)
    grind
theorem sm_le {n : Nat} {f g : Nat → Rat} (h : ∀ c, c < n → f c ≤ g c) : sm n f ≤ sm n g := by
  induction n with
  | zero => exact Rat.le_refl
  | succ n ih =>
    rw [sm_succ, sm_succ]
    have h1 := ih fun c hc => h c (by omega)
    have h2 := h n (by omega)
    grind
theorem sm_mul {n : Nat} {f : Nat → Rat} {k : Rat} : sm n (fun c => f c * k) = sm n f * k := by
  induction n with
  | zero => rw [sm_zero, sm_zero]; grind
  | succ n ih => rw [sm_succ, sm_succ, ih]; grind
theorem sm_split {n i : Nat} {f : Nat → Rat} (hi : i < n) : sm n f = f i + sm n fun c => if c = i then 0 else f c := by
  have e : sm n (fun c => if c = i then f i else 0) = f i := by
    rw [sm_one hi fun c _ h => by simp [h]]
    simp
  have ad : ∀ (m : Nat) (u v : Nat → Rat), sm m (fun c => u c + v c) = sm m u + sm m v := fun m u v => by
    induction m with
    | zero => rw [sm_zero, sm_zero, sm_zero, Rat.add_zero]
    | succ m ih => rw [sm_succ, sm_succ, sm_succ, ih]; grind
  conv => rhs; lhs; rw [← e]
  rw [← ad]
  refine sm_congr fun c _ => ?_
  by_cases h : c = i
  · subst h; simp [Rat.add_zero]
  · simp [h, Rat.zero_add]
theorem max_at (n : Nat) (z : Nat → Rat) (h : 0 < n) : ∃ r, r < n ∧ ∀ c, c < n → ra (z c) ≤ ra (z r) := by
  induction n with
  | zero => omega
  | succ n ih =>
    by_cases hn : n = 0
    · subst hn
      exact ⟨0, by omega, fun c hc => by rw [show c = 0 by omega]; exact Rat.le_refl⟩
    · obtain ⟨r, h1, h2⟩ := ih (by omega)
      by_cases hc : ra (z r) ≤ ra (z n)
      · refine ⟨n, by omega, fun c hc' => ?_⟩
        by_cases e : c = n
        · rw [e]; exact Rat.le_refl
        · have := h2 c (by omega); grind
      · refine ⟨r, by omega, fun c hc' => ?_⟩
        by_cases e : c = n
        · rw [e]; grind
        · exact h2 c (by omega)
theorem Dom.kernel {n : Nat} {M : Tb} (h : Dom n M) {z : Nat → Rat} (hz : ∀ r, r < n → sm n (fun c => M r c * z c) = 0) : ∀ c, c < n → z c = 0 := by
  intro c hc
  obtain ⟨r, hr, hm⟩ := max_at n z (by omega)
  by_cases h0 : ra (z r) = 0
  · have := hm c hc
    have := ra_nonneg (z c)
    exact ra_zero.mp (by grind)
  · exfalso
    have zp : 0 < ra (z r) := by have := ra_nonneg (z r); grind
    have d := h r hr
    have e := hz r hr
    rw [sm_split hr] at e
    have e2 : ra (M r r * z r) = ra (sm n fun c => if c = r then 0 else M r c * z c) := by
      rw [show M r r * z r = -(sm n fun c => if c = r then 0 else M r c * z c) by grind, ra_neg]
    have e3 : ra (sm n fun c => if c = r then 0 else M r c * z c) ≤ offs n (M r) r * ra (z r) := by
      refine Rat.le_trans sm_ra ?_
      unfold offs
      rw [← sm_mul]
      refine sm_le fun c hc => ?_
      by_cases q : c = r
      · simp [q, ra_zero.mpr rfl]
      · simp only [q, if_false]
        rw [ra_mul]
        exact Rat.mul_le_mul_of_nonneg_left (hm c hc) (ra_nonneg _)
    rw [ra_mul] at e2
    have e4 : offs n (M r) r * ra (z r) < ra (M r r) * ra (z r) := Rat.mul_lt_mul_of_pos_right d zp
    grind
end MR

set_option Elab.async false
set_option linter.all false
set_option maxRecDepth 100000
set_option maxHeartbeats 1000000
/-! PR: the texts of rows of small ratios; drawn rows. -/
namespace MR
open PySem L2
def pq (x : Rat) : PyData := .tuple [.int x.num, .int x.den]
def pql (xs : List Rat) : PyData := .list (xs.map pq)
def pqm (rows : List (List Rat)) : PyData := .list (rows.map pql)
theorem py_rq {x : Rat} : toPy (rq x) = some (pq x) := by simp [toPy, toPys, pq]
theorem pys_map {α : Type} {f : α → D} {g : α → PyData} (h : ∀ x, toPy (f x) = some (g x)) : ∀ xs : List α, toPys (xs.map f) = some (xs.map g)
  | [] => rfl
  | x :: xs => by simp [toPys, h, pys_map h xs]
theorem py_rql {xs : List Rat} : toPy (rql xs) = some (pql xs) := by
  unfold rql pql
  simp [toPy, pys_map (fun _ => py_rq) xs]
theorem py_rqm {rows : List (List Rat)} : toPy (rqm rows) = some (pqm rows) := by
  unfold rqm pqm
  simp [toPy, pys_map (fun _ => py_rql) rows]
/-- what is asked of data to be shown, at most w heavy -/
structure Shw (w : Nat) (p : PyData) : Prop where
  sh : p.showable = true
  nd : p.hasDict = false
  ls : p.leavesShort 13 = true
  wt : p.weight ≤ w
theorem Shw.mono {w v : Nat} {p : PyData} (h : Shw w p) (e : w ≤ v) : Shw v p := ⟨h.sh, h.nd, h.ls, Nat.le_trans h.wt e⟩
theorem shw_all {w : Nat} : ∀ {ps : List PyData}, (∀ p ∈ ps, Shw w p) → PyData.showableAll ps = true ∧ PyData.hasDictAll ps = false ∧ PyData.leavesShortAll 13 ps = true ∧ PyData.weightAll ps ≤ ps.length * (w + 1)
  | [], _ => ⟨rfl, rfl, rfl, by simp [PyData.weightAll]⟩
  | p :: ps, h => by
    obtain ⟨h1, h2, h3, h4⟩ := h p List.mem_cons_self
    obtain ⟨k1, k2, k3, k4⟩ := shw_all (ps := ps) fun q hq => h q (List.mem_cons_of_mem _ hq)
    refine ⟨by simp [PyData.showableAll, h1, k1], by simp [PyData.hasDictAll, h2, k2], by simp [PyData.leavesShortAll, h3, k3], ?_⟩
    simp only [PyData.weightAll, List.length_cons]
    rw [Nat.add_mul]
    omega
theorem shw_list {w n : Nat} {ps : List PyData} (h : ∀ p ∈ ps, Shw w p) (hn : ps.length ≤ n) : Shw (n * (w + 1)) (.list ps) := by
  obtain ⟨k1, k2, k3, k4⟩ := shw_all h
  exact ⟨by simpa [PyData.showable] using k1, by simpa [PyData.hasDict] using k2, by simpa [PyData.leavesShort] using k3, by simp only [PyData.weight]; exact Nat.le_trans k4 (Nat.mul_le_mul hn (Nat.le_refl _))⟩
theorem shw_tuple {w n : Nat} {ps : List PyData} (h : ∀ p ∈ ps, Shw w p) (hn : ps.length ≤ n) : Shw (n * (w + 1)) (.tuple ps) := by
  obtain ⟨k1, k2, k3, k4⟩ := shw_all h
  exact ⟨by simpa [PyData.showable] using k1, by simpa [PyData.hasDict] using k2, by simpa [PyData.leavesShort] using k3, by simp only [PyData.weight]; exact Nat.le_trans k4 (Nat.mul_le_mul hn (Nat.le_refl _))⟩
theorem shw_int {i : Int} (h : i.natAbs < 2 ^ 39) : Shw 40 (.int i) := by
  have hl := log2_lt (by decide) h
  refine ⟨by simp [PyData.showable]; omega, rfl, ?_, ?_⟩
  · have := PyData.shown_int_le (i := i) (Nat.lt_trans h (by decide))
    simpa [PyData.leavesShort] using this
  · simp only [PyData.weight]
    split <;> omega
theorem shw_rq {x : Rat} (h : Bt 39 x) : Shw 82 (pq x) := shw_tuple (w := 40) (n := 2) (fun p hp => by
  rcases List.mem_cons.mp hp with rfl | hp
  · exact shw_int h.n
  · rcases List.mem_cons.mp hp with rfl | hp
    · exact shw_int (by simpa using h.d)
    · cases hp) (by simp)
theorem shw_rql {xs : List Rat} {n : Nat} (h : Bts 39 xs) (hn : xs.length ≤ n) : Shw (n * 83) (pql xs) := shw_list (w := 82) (fun p hp => by
  obtain ⟨x, hx, rfl⟩ := List.mem_map.mp hp
  exact shw_rq (h x hx)) (by simpa using hn)
theorem shw_rqm {rows : List (List Rat)} {n : Nat} (h : ∀ r ∈ rows, Bts 39 r ∧ r.length ≤ n) (hn : rows.length ≤ n) : Shw (n * (n * 83 + 1)) (pqm rows) := shw_list (w := n * 83) (fun p hp => by
  obtain ⟨x, hx, rfl⟩ := List.mem_map.mp hp
  exact shw_rql (h x hx).1 (h x hx).2) (by simpa using hn)
theorem repr_three {A B : List (List Rat)} {v : List Rat} (hA : ∀ r ∈ A, Bts 39 r ∧ r.length ≤ 6) (hA2 : A.length ≤ 6) (hB : ∀ r ∈ B, Bts 39 r ∧ r.length ≤ 6) (hB2 : B.length ≤ 6) (hv : Bts 39 v) (hv2 : v.length ≤ 6) :
    ∃ s : Str, fRepr (.lst [rqm A, rqm B, rql v]) = some (.str s) := by
  have e : toPy (.lst [rqm A, rqm B, rql v]) = some (.list [pqm A, pqm B, pql v]) := by simp [toPy, toPys, py_rqm, py_rql]
  have w : Shw (3 * (6 * (6 * 83 + 1) + 1)) (.list [pqm A, pqm B, pql v]) := shw_list (fun p hp => by
    rcases List.mem_cons.mp hp with rfl | hp
    · exact shw_rqm hA hA2
    · rcases List.mem_cons.mp hp with rfl | hp
      · exact shw_rqm hB hB2
      · rcases List.mem_cons.mp hp with rfl | hp
        · exact (shw_rql hv hv2).mono (by decide)
        · cases hp) (by simp)
  have dp : (PyData.list [pqm A, pqm B, pql v]).depth ≤ 60 := by
    have pl : plain 4 (.lst [rqm A, rqm B, rql v]) = true := by
      simp only [MR.plain, MR.plains, Bool.and_true, Bool.and_eq_true]
      exact ⟨plain_rqm, plain_rqm, plains_map fun _ _ => rfl⟩
    obtain ⟨p, e2, _, h3⟩ := plain_py pl
    rw [e] at e2
    cases e2
    omega
  have fits := PyData.shown_fits (B := 13) (by decide) (by decide) w.ls (Nat.le_trans w.wt (by decide))
  refine ⟨(PyData.list [pqm A, pqm B, pql v]).shown, ?_⟩
  unfold fRepr
  rw [if_pos (show isRefD _ = true from rfl), e, Option.bind_some, if_pos ⟨w.sh, w.nd, dp, fits⟩]
/-! ### drawn rows -/
theorem div2520 {d : Int} (h1 : 1 ≤ d) (h9 : d ≤ 9) : ∃ a : Int, d * a = 2520 ∧ 0 < a ∧ a ≤ 2520 := by
  have : d = 1 ∨ d = 2 ∨ d = 3 ∨ d = 4 ∨ d = 5 ∨ d = 6 ∨ d = 7 ∨ d = 8 ∨ d = 9 := by omega
  rcases this with rfl | rfl | rfl | rfl | rfl | rfl | rfl | rfl | rfl
  · exact ⟨2520, by decide, by decide, by decide⟩
  · exact ⟨1260, by decide, by decide, by decide⟩
  · exact ⟨840, by decide, by decide, by decide⟩
  · exact ⟨630, by decide, by decide, by decide⟩
  · exact ⟨504, by decide, by decide, by decide⟩
  · exact ⟨420, by decide, by decide, by decide⟩
  · exact ⟨360, by decide, by decide, by decide⟩
  · exact ⟨315, by decide, by decide, by decide⟩
  · exact ⟨280, by decide, by decide, by decide⟩
theorem cd_of {n d : Int} {k : Nat} (h1 : 1 ≤ d) (h9 : d ≤ 9) (hn : n.natAbs * 2520 < 2 ^ k) : Cd 2520 k (Rat.divInt n d) := by
  obtain ⟨a, ha, a1, a2⟩ := div2520 h1 h9
  refine ⟨n * a, ?_, ?_⟩
  · rw [← Rat.divInt_mul_right (show a ≠ 0 by omega), ha]
    rfl
  · rw [Int.natAbs_mul]
    refine Nat.lt_of_le_of_lt (Nat.mul_le_mul (Nat.le_refl _) ?_) hn
    omega
theorem small_cd (c : Int) : Cd 2520 14 (smallR c) := by
  obtain ⟨n, d, e, h1, h9, hn⟩ := small_form c
  rw [e]
  exact cd_of h1 h9 (by have : n.natAbs * 2520 ≤ 6 * 2520 := Nat.mul_le_mul hn (Nat.le_refl _); omega)
theorem Cd.mono {D b c : Nat} {x : Rat} (h : Cd D b x) (e : b ≤ c) : Cd D c x := let ⟨m, h1, h2⟩ := h; ⟨m, h1, p2 h2 e⟩
/-- bounded by numbers, not by bits -/
def Cn (D B : Nat) (x : Rat) : Prop := ∃ m : Int, x = Rat.divInt m D ∧ m.natAbs ≤ B
theorem Cn.cd {D B b : Nat} {x : Rat} (h : Cn D B x) (hb : B < 2 ^ b) : Cd D b x := let ⟨m, h1, h2⟩ := h; ⟨m, h1, Nat.lt_of_le_of_lt h2 hb⟩
theorem Cn.mono {D B C : Nat} {x : Rat} (h : Cn D B x) (hb : B ≤ C) : Cn D C x := let ⟨m, h1, h2⟩ := h; ⟨m, h1, Nat.le_trans h2 hb⟩
theorem Cn.add {D B C : Nat} {x y : Rat} (hx : Cn D B x) (hy : Cn D C y) (D0 : 0 < D) : Cn D (B + C) (x + y) := by
  obtain ⟨m, rfl, h1⟩ := hx
  obtain ⟨k, rfl, h2⟩ := hy
  refine ⟨m + k, ?_, by omega⟩
  rw [Rat.divInt_add_divInt _ _ (by omega) (by omega), ← Int.add_mul, Rat.divInt_mul_right (by omega)]
theorem Cn.neg {D B : Nat} {x : Rat} (hx : Cn D B x) : Cn D B (-x) := by
  obtain ⟨m, rfl, h1⟩ := hx
  exact ⟨-m, Rat.neg_divInt _ _, by omega⟩
theorem Cn.ra {D B : Nat} {x : Rat} (hx : Cn D B x) : Cn D B (MR.ra x) := by
  unfold MR.ra
  split
  · exact hx.neg
  · exact hx
theorem Cn.zero {D B : Nat} : Cn D B 0 := ⟨0, (Rat.zero_divInt _).symm, by omega⟩
theorem Cn.mul {D D' B C : Nat} {x y : Rat} (hx : Cn D B x) (hy : Cn D' C y) : Cn (D * D') (B * C) (x * y) := by
  obtain ⟨m, rfl, h1⟩ := hx
  obtain ⟨k, rfl, h2⟩ := hy
  refine ⟨m * k, ?_, ?_⟩
  · rw [Rat.divInt_mul_divInt, Int.natCast_mul]
  · rw [Int.natAbs_mul]
    exact Nat.mul_le_mul h1 h2
theorem Cn.sm {D B n : Nat} {f : Nat → Rat} (h : ∀ c, c < n → Cn D B (f c)) (D0 : 0 < D) : Cn D (n * B) (MR.sm n f) := by
  induction n with
  | zero => exact .zero
  | succ n ih =>
    rw [sm_succ, Nat.add_mul, Nat.one_mul]
    exact (ih fun c hc => h c (by omega)).add (h n (by omega)) D0
theorem cn_of {n d : Int} {k : Nat} (h1 : 1 ≤ d) (h9 : d ≤ 9) (hn : n.natAbs ≤ k) : Cn 2520 (k * 2520) (Rat.divInt n d) := by
  obtain ⟨a, ha, a1, a2⟩ := div2520 h1 h9
  refine ⟨n * a, ?_, ?_⟩
  · rw [← Rat.divInt_mul_right (show a ≠ 0 by omega), ha]
    rfl
  · rw [Int.natAbs_mul]
    exact Nat.mul_le_mul hn (by omega)
theorem small_cn (c : Int) : Cn 2520 15120 (smallR c) := by
  obtain ⟨n, d, e, h1, h9, hn⟩ := small_form c
  rw [e]
  exact (cn_of h1 h9 hn).mono (by decide)
theorem Bt.cn {D B k : Nat} {x : Rat} (h : Cn D B x) (D0 : 0 < D) (hD : D < 2 ^ k) (hB : B < 2 ^ k) : Bt k x := (h.cd hB).bt D0 hD
/-- the drawn rows -/
noncomputable def drawn (ns : List Int) (a n : Nat) : Tb := fun i j => smallR (cellZ ns (a + n * i + j))
theorem lrows_eq {ns : List Int} {a n : Nat} (ha : a ≤ 100) (hn : n ≤ 6) : RV.m__law_rows [.scr ns, .int a, .int n] = .ok (rqm (rowsL n (drawn ns a n))) := by
  have c1 : (n : Int) ≤ 1000000 := by omega
  have c2 : -1000000 ≤ (n : Int) := by omega
  have cc : ∀ (L : D) (i : Nat), i < 6 → RV.b__law_rows_C0 [.scr ns, .int a, .int n, L, .int i, .non] = .ok (rql (rowL n (drawn ns a n i))) [.scr ns, .int a, .int n, L, .int i, .non] := fun L i hi => by
    unfold RV.b__law_rows_C0
    simp [c1, c2]
    rw [lcR (fun j => rq (drawn ns a n i j)), rql_range]
    · rfl
    intro j hj
    have hwi : n * i ≤ 6 * 6 := Nat.mul_le_mul hn (by omega)
    have e := cell_is ns (a + n * i + j) (by omega)
    have m : CMulX n i := mulx (a := 3) (b := 3) (by omega) (by omega)
    push_cast at e
    unfold RV.b__law_rows_C0e
    simp [m, e, small_is, drawn]
  have go := forL_range (i := 4) (s1 := RV.b__law_rows_L0) (fun k => [.scr ns, .int a, .int n, rqm ((List.range k).map fun i => rowL n (drawn ns a n i)), .non, .non]) n fun k hk => by
    left
    have hl : k < 1000000 := by omega
    simp only [List.set_cons_succ, List.set_cons_zero]
    unfold RV.b__law_rows_L0
    simp [cc _ k (by omega), hl, List.range_succ]
    simp [rqm]
  have z : rqm ((List.range 0).map fun i => rowL n (drawn ns a n i)) = .lst [] := rfl
  simp only [z] at go
  unfold RV.m__law_rows
  rw [mDef_eq]
  unfold RV.b__law_rows
  simp [c1, c2, go]
  rfl
/-! ### parts of lists -/
theorem fSl_rql {xs : List Rat} {lo hi : Option Int} : fSl lo hi (rql xs) = some (rql (cutD xs lo hi)) := by
  unfold rql
  rw [fSl_lst]
  unfold cutD
  rw [List.length_map, List.map_take, List.map_drop]
theorem fSl_rqm {xs : List (List Rat)} {lo hi : Option Int} : fSl lo hi (rqm xs) = some (rqm (cutD xs lo hi)) := by
  unfold rqm
  rw [fSl_lst]
  unfold cutD
  rw [List.length_map, List.map_take, List.map_drop]
theorem fAdd_rql {xs ys : List Rat} (h : xs.length + ys.length ≤ 1000000) : fAdd (rql xs) (rql ys) = some (rql (xs ++ ys)) := by
  unfold rql
  rw [fAdd_lst, if_pos (by rw [List.length_map, List.length_map]; exact Nat.le_trans h (by decide)), List.map_append]
theorem fAdd_rqm {xs ys : List (List Rat)} (h : xs.length + ys.length ≤ 1000000) : fAdd (rqm xs) (rqm ys) = some (rqm (xs ++ ys)) := by
  unfold rqm
  rw [fAdd_lst, if_pos (by rw [List.length_map, List.length_map]; exact Nat.le_trans h (by decide)), List.map_append]
theorem rql_one {a : Rat} : D.lst [rq a] = rql [a] := rfl
theorem rqm_one {a : List Rat} : D.lst [rql a] = rqm [a] := rfl
theorem put_list {α : Type} {n at' : Nat} {f : Nat → α} {d : α} (h : at' < n) : ((List.range n).map f).take at' ++ [d] ++ ((List.range n).map f).drop (at' + 1) = (List.range n).map fun j => if j = at' then d else f j := by
  rw [List.append_assoc]
  refine List.ext_getElem (by simp; omega) fun i h1 h2 => ?_
  have hi : i < n := by simpa using h2
  by_cases e : i < at'
  · rw [List.getElem_append_left (by simp; omega)]
    simp [show ¬ i = at' by omega]
  · rw [List.getElem_append_right (by simp; omega)]
    have hl : (((List.range n).map f).take at').length = at' := by simp; omega
    by_cases e2 : i = at'
    · subst e2
      simp [hl]
    · rw [List.getElem_append_right (by simp; omega)]
      simp [e2]
      congr 1
      omega
theorem turn_list {α : Type} {n t : Nat} {f : Nat → α} (h : t < n) : ((List.range n).map f).drop t ++ ((List.range n).map f).take t = (List.range n).map fun j => f ((j + t) % n) := by
  refine List.ext_getElem (by simp; omega) fun i h1 h2 => ?_
  have hi : i < n := by simpa using h2
  by_cases e : i < n - t
  · rw [List.getElem_append_left (by simp; omega)]
    simp [Nat.mod_eq_of_lt (show i + t < n by omega), Nat.add_comm i t, Nat.mod_eq_of_lt (show t + i < n by omega)]
  · rw [List.getElem_append_right (by simp; omega)]
    have : (i + t) % n = i + t - n := by
      rw [Nat.mod_eq_sub_mod (by omega), Nat.mod_eq_of_lt (by omega)]
    simp [this]
    congr 1
    omega
theorem sum_filter {p : Nat → Bool} {g : Nat → Rat} (n : Nat) : (((List.range n).filter p).map g).sum = sm n fun c => if p c = true then g c else 0 := by
  induction n with
  | zero => rfl
  | succ n ih =>
    rw [List.range_succ, List.filter_append, List.map_append, sm_succ, ← ih]
    cases q : p n with
    | true => simp [q, sum_snoc, Rat.add_zero]
    | false => simp [q, Rat.add_zero]
theorem sum_pair {k : Nat} {a b : Rat} (ha : Bt k a) (hb : Bt k b) (hk : k ≤ 700 := by decide) : RV.m__law_sum [rql [a, b]] = .ok (rq (a + b)) := by
  have := sum_eq (k := k) (xs := [a, b]) (fun x hx => by
    rcases List.mem_cons.mp hx with rfl | hx
    · exact ha
    · rcases List.mem_cons.mp hx with rfl | hx
      · exact hb
      · cases hx) hk
  rw [this]
  simp [Rat.add_zero]
theorem offs_cn {n i B : Nat} {f : Nat → Rat} (h : ∀ c, c < n → Cn 2520 B (f c)) : Cn 2520 (n * B) (offs n f i) := Cn.sm (fun c hc => by
  by_cases e : c = i
  · rw [if_pos e]; exact .zero
  · rw [if_neg e]; exact (h c hc).ra) (by decide)
theorem sm_nonneg {n : Nat} {f : Nat → Rat} (h : ∀ c, c < n → 0 ≤ f c) : 0 ≤ sm n f := by
  induction n with
  | zero => exact Rat.le_refl
  | succ n ih =>
    rw [sm_succ]
    have := ih fun c hc => h c (by omega)
    have := h n (by omega)
    grind
theorem offs_nonneg {n i : Nat} {f : Nat → Rat} : 0 ≤ offs n f i := sm_nonneg fun c _ => by
  split
  · exact Rat.le_refl
  · exact ra_nonneg _
end MR

set_option Elab.async false
set_option linter.all false
set_option maxRecDepth 100000
set_option maxHeartbeats 4000000
/-! M_k16: the mirrors of the defs (printed by emit.py). -/
namespace K16
open PySem L2 MR
abbrev tags : List Nat := [0, 1]
def b__law_own_C0e : ME :=
  (mTup (mCons (mCB fAbs (mCons (mOp fIx (mOp fIx (mVar 0) (mVar 6)) (mC (.int 0))) mNil)) (mCons (mOp fIx (mOp fIx (mVar 0) (mVar 6)) (mC (.int 1))) mNil)))
def b__law_own_C0 : ME :=
  (mLc (mRng rng1 (mCons (mCB fLen (mCons (mVar 0) mNil)) mNil)) (bName 6) (mCmpT fNe (mVar 6) (mVar 1)) b__law_own_C0e [.d, .d, .d, .x, .x, .x, .x])
def b__law_own : MS :=
  (mSeq (mAsg 3 (mCall RV.m__law_sum [] (mCons b__law_own_C0 mNil)))
  (mSeq (mAsg 4 (mCall RV.m__law_low [] (mCons (mOp fAdd (mC (.int 1)) (mOp (fIntC CModX Int.fmod) (mVar 2) (mC (.int 7)))) (mCons (mOp fAdd (mC (.int 1)) (mOp (fIntC CModX Int.fmod) (mOp (fIntC CDivX Int.fdiv) (mVar 2) (mC (.int 7))) (mC (.int 9)))) mNil))))
  (mSeq (mAsg 5 (mCall RV.m__law_sum [] (mCons (mLst (mCons (mVar 3) (mCons (mVar 4) mNil))) mNil)))
  (mSeq (mIf (mCmpT fEq (mOp (fIntC CModX Int.fmod) (mOp (fIntC CDivX Int.fdiv) (mVar 2) (mC (.int 63))) (mC (.int 2))) (mC (.int 1)))
  (mKeep [.d, .d, .x, .x, .x, .d, .x] (mAsg 5 (mTup (mCons (mOp (fInt (· - ·)) (mC (.int 0)) (mOp fIx (mVar 5) (mC (.int 0)))) (mCons (mOp fIx (mVar 5) (mC (.int 1))) mNil)))))
  (mKeep [.d, .d, .x, .x, .x, .d, .x] mNext))
  (mRet (mOp fAdd (mOp fAdd (mSl fSl (mVar 0) mNoPart (mPart (mVar 1))) (mLst (mCons (mVar 5) mNil))) (mSl fSl (mVar 0) (mPart (mOp fAdd (mVar 1) (mC (.int 1)))) mNoPart)))))))
def m__law_own : MP := mDef .d 4 b__law_own
def b__law_weak_C0e : ME :=
  (mTup (mCons (mCB fAbs (mCons (mOp fIx (mOp fIx (mVar 3) (mVar 5)) (mC (.int 0))) mNil)) (mCons (mOp fIx (mOp fIx (mVar 3) (mVar 5)) (mC (.int 1))) mNil)))
def b__law_weak_C0 : ME :=
  (mLc (mRng rng1 (mCons (mCB fLen (mCons (mVar 3) mNil)) mNil)) (bName 5) (mCmpT fNe (mVar 5) (mVar 2)) b__law_weak_C0e [.d, .d, .d, .d, .x, .x])
def b__law_weak_T7 : MS :=
  (mRet (mOp fAdd (mOp fAdd (mSl fSl (mVar 0) mNoPart (mPart (mVar 2))) (mLst (mCons (mOp fAdd (mOp fAdd (mSl fSl (mVar 3) mNoPart (mPart (mVar 2))) (mLst (mCons (mVar 4) mNil))) (mSl fSl (mVar 3) (mPart (mOp fAdd (mVar 2) (mC (.int 1)))) mNoPart)) mNil))) (mSl fSl (mVar 0) (mPart (mOp fAdd (mVar 2) (mC (.int 1)))) mNoPart)))
def b__law_weak_T6 : MS :=
  (mSeq (mIf (mCmpT fEq (mOp (fIntC CModX Int.fmod) (mOp (fIntC CDivX Int.fdiv) (mVar 1) (mC (.int 5))) (mC (.int 2))) (mC (.int 1)))
  (mKeep [.d, .x, .d, .d, .d, .x] (mAsg 4 (mTup (mCons (mOp (fInt (· - ·)) (mC (.int 0)) (mOp fIx (mVar 4) (mC (.int 0)))) (mCons (mOp fIx (mVar 4) (mC (.int 1))) mNil)))))
  (mKeep [.d, .x, .d, .d, .d, .x] mNext))
  b__law_weak_T7)
def b__law_weak_T3 : MS :=
  (mSeq (mIf (mCmpT fEq (mOp (fIntC CModX Int.fmod) (mOp (fIntC CDivX Int.fdiv) (mVar 1) (mC (.int 6))) (mC (.int 4))) (mC (.int 1)))
  (mSeq (mAsg 4 (mCall RV.m__law_sum [] (mCons (mLst (mCons (mVar 4) (mCons (mTup (mCons (mOp (fInt (· - ·)) (mC (.int 0)) (mC (.int 1))) (mCons (mC (.int 5)) mNil))) mNil))) mNil)))
  (mIf (mCmpT fLt (mOp fIx (mVar 4) (mC (.int 0))) (mC (.int 0)))
  (mAsg 4 (mTup (mCons (mC (.int 0)) (mCons (mC (.int 1)) mNil))))
  mNext))
  mNext)
  (mSeq (mIf (mCmpT fEq (mOp (fIntC CModX Int.fmod) (mOp (fIntC CDivX Int.fdiv) (mVar 1) (mC (.int 6))) (mC (.int 4))) (mC (.int 2)))
  (mAsg 4 (mCall RV.m__law_times [] (mCons (mVar 4) (mCons (mTup (mCons (mC (.int 1)) (mCons (mOp fAdd (mC (.int 2)) (mOp (fIntC CModX Int.fmod) (mOp (fIntC CDivX Int.fdiv) (mVar 1) (mC (.int 24))) (mC (.int 9)))) mNil))) mNil))))
  mNext)
  (mSeq (mIf (mCmpT fEq (mOp (fIntC CModX Int.fmod) (mOp (fIntC CDivX Int.fdiv) (mVar 1) (mC (.int 6))) (mC (.int 4))) (mC (.int 3)))
  (mAsg 4 (mTup (mCons (mC (.int 0)) (mCons (mC (.int 1)) mNil))))
  mNext)
  b__law_weak_T6)))
def b__law_weak : MS :=
  (mSeq (mAsg 2 (mOp (fIntC CModX Int.fmod) (mVar 1) (mCB fLen (mCons (mVar 0) mNil))))
  (mSeq (mAsg 3 (mOp fIx (mVar 0) (mVar 2)))
  (mSeq (mAsg 4 (mCall RV.m__law_sum [] (mCons b__law_weak_C0 mNil)))
  b__law_weak_T3)))
def m__law_weak : MP := mDef .d 4 b__law_weak
def b_law_C0e : ME :=
  (mCall m__law_own [] (mCons (mOp fIx (mVar 2) (mVar 12)) (mCons (mVar 12) (mCons (mCall RV.m__law_cell [] (mCons (mVar 0) (mCons (mOp fAdd (mC (.int 41)) (mVar 12)) mNil))) mNil))))
def b_law_C0 : ME :=
  (mLc (mRng rng1 (mCons (mVar 1) mNil)) (bName 12) mYes b_law_C0e [.d, .d, .d, .x, .x, .x, .x, .x, .x, .x, .x, .x, .x, .x, .x])
def b_law_C1e : ME :=
  (mCall RV.m__law_small [] (mCons (mCall RV.m__law_cell [] (mCons (mVar 0) (mCons (mOp fAdd (mC (.int 48)) (mVar 12)) mNil))) mNil))
def b_law_C1 : ME :=
  (mLc (mRng rng1 (mCons (mVar 1) mNil)) (bName 12) mYes b_law_C1e [.d, .d, .d, .x, .x, .x, .x, .x, .x, .x, .x, .x, .x, .x, .x])
def b_law_C3e : ME :=
  (mCall RV.m__law_times [] (mCons (mVar 8) (mCons (mVar 14) mNil)))
def b_law_C3 : ME :=
  (mLc (mItL (mVar 13)) (bName 14) mYes b_law_C3e [.x, .x, .d, .d, .d, .d, .d, .d, .d, .x, .x, .x, .x, .d, .x])
def b_law_C2e : ME :=
  b_law_C3
def b_law_C2 : ME :=
  (mLc (mItL (mOp fAdd (mSl fSl (mVar 2) (mPart (mVar 7)) mNoPart) (mSl fSl (mVar 2) mNoPart (mPart (mVar 7))))) (bName 13) mYes b_law_C2e [.x, .x, .d, .d, .d, .d, .d, .d, .d, .x, .x, .x, .x, .x, .x])
def b_law_C4e : ME :=
  (mCall RV.m__law_times [] (mCons (mVar 8) (mCons (mVar 14) mNil)))
def b_law_C4 : ME :=
  (mLc (mItL (mOp fAdd (mSl fSl (mVar 3) (mPart (mVar 7)) mNoPart) (mSl fSl (mVar 3) mNoPart (mPart (mVar 7))))) (bName 14) mYes b_law_C4e [.x, .x, .d, .d, .d, .d, .d, .d, .d, .d, .x, .x, .x, .x, .x])
def b_law_C5e : ME :=
  (mCall RV.m__law_times [] (mCons (mTup (mCons (mC (.int 2)) (mCons (mC (.int 1)) mNil))) (mCons (mVar 14) mNil)))
def b_law_C5 : ME :=
  (mLc (mItL (mVar 3)) (bName 14) mYes b_law_C5e [.x, .x, .d, .d, .d, .d, .d, .x, .x, .x, .x, .x, .x, .x, .x])
def b_law_C6e : ME :=
  (mCall RV.m__law_times [] (mCons (mTup (mCons (mC (.int 2)) (mCons (mC (.int 1)) mNil))) (mCons (mVar 14) mNil)))
def b_law_C6 : ME :=
  (mLc (mItL (mVar 6)) (bName 14) mYes b_law_C6e [.x, .x, .d, .d, .d, .d, .d, .x, .x, .x, .x, .d, .x, .x, .x])
def b_law_T14 : MS :=
  (mSeq (mAsg 9 b_law_C2)
  (mSeq (mAsg 10 b_law_C4)
  (mSeq (mIf (mCmpT fNe (mCall RV.m_solve [] (mCons (mVar 9) (mCons (mVar 10) mNil))) (mVar 6))
  (mRet (mC (.bl false)))
  (mKeep [.x, .x, .d, .d, .d, .d, .d, .x, .x, .x, .x, .x, .x, .x, .x] mNext))
  (mSeq (mAsg 11 (mCall RV.m_solve [] (mCons (mVar 2) (mCons b_law_C5 mNil))))
  (mRet (mAndV (mCmp fEq (mVar 11) b_law_C6) (mCmp fEq (mUn fRepr (mLst (mCons (mVar 2) (mCons (mVar 4) (mCons (mVar 3) mNil))))) (mVar 5))))))))
def b_law_T11 : MS :=
  (mSeq (mAsg 7 (mOp (fIntC CModX Int.fmod) (mCall RV.m__law_cell [] (mCons (mVar 0) (mCons (mC (.int 2)) mNil))) (mVar 1)))
  (mSeq (mAsg 8 (mCall RV.m__law_small [] (mCons (mCall RV.m__law_cell [] (mCons (mVar 0) (mCons (mC (.int 3)) mNil))) mNil)))
  (mSeq (mIf (mCmpT fEq (mOp fIx (mVar 8) (mC (.int 0))) (mC (.int 0)))
  (mKeep [.x, .x, .d, .d, .d, .d, .d, .d, .d, .x, .x, .x, .x, .x, .x] (mAsg 8 (mTup (mCons (mC (.int 5)) (mCons (mC (.int 3)) mNil)))))
  (mKeep [.x, .x, .d, .d, .d, .d, .d, .d, .d, .x, .x, .x, .x, .x, .x] mNext))
  b_law_T14)))
def b_law_T7 : MS :=
  (mSeq (mAsg 6 (mCall RV.m_solve [] (mCons (mVar 2) (mCons (mVar 3) mNil))))
  (mSeq (mIf (mCmpT fNe (mUn fRepr (mLst (mCons (mVar 2) (mCons (mVar 4) (mCons (mVar 3) mNil))))) (mVar 5))
  (mRet (mC (.bl false)))
  mNext)
  (mSeq (mIf (mOr (mNot (mTr (mUn (fIsi "list") (mVar 6)))) (mOr (mCmpT fNe (mCB fLen (mCons (mVar 6) mNil)) (mVar 1)) (mCmpT fNe (mCall RV.m__law_product [] (mCons (mVar 2) (mCons (mVar 6) mNil))) (mVar 3))))
  (mRet (mC (.bl false)))
  mNext)
  (mSeq (mIf (mCmpT fNe (mCall RV.m_product [] (mCons (mVar 2) (mCons (mVar 6) mNil))) (mVar 3))
  (mRet (mC (.bl false)))
  mNext)
  b_law_T11))))
def b_law_T4 : MS :=
  (mSeq (mAsg 4 (mCall m__law_weak [] (mCons (mVar 2) (mCons (mCall RV.m__law_cell [] (mCons (mVar 0) (mCons (mC (.int 1)) mNil))) mNil))))
  (mSeq (mAsg 5 (mUn fRepr (mLst (mCons (mVar 2) (mCons (mVar 4) (mCons (mVar 3) mNil))))))
  (mSeq (mIf (mOr (mCmpT fNotB (mCall RV.m_is_dominant [] (mCons (mVar 2) mNil)) (mC (.bl true))) (mCmpT fNotB (mCall RV.m_is_dominant [] (mCons (mVar 4) mNil)) (mC (.bl false))))
  (mRet (mC (.bl false)))
  mNext)
  b_law_T7)))
def b_law : MS :=
  (mSeq (mAsg 1 (mOp fAdd (mC (.int 1)) (mOp (fIntC CModX Int.fmod) (mCall RV.m__law_cell [] (mCons (mVar 0) (mCons (mC (.int 0)) mNil))) (mC (.int 6)))))
  (mSeq (mAsg 2 (mCall RV.m__law_rows [] (mCons (mVar 0) (mCons (mC (.int 4)) (mCons (mVar 1) mNil)))))
  (mSeq (mAsg 2 b_law_C0)
  (mSeq (mAsg 3 b_law_C1)
  b_law_T4))))
def m_law : MP := mDef .d 14 b_law
end K16

set_option linter.all false
set_option maxRecDepth 100000
set_option maxHeartbeats 1000000
namespace K16
open PySem L2 MR
theorem own_c0 {n i : Nat} {f : Nat → Rat} {c : D} (hn : n ≤ 6) (hi : i < n) : b__law_own_C0 [rql (rowL n f), .int i, c, .non, .non, .non, .non] = .ok (rql (((List.range n).filter fun j => !decide (j = i)).map fun j => ra (f j))) [rql (rowL n f), .int i, c, .non, .non, .non, .non] := by
  have c1 : (n : Int) ≤ 1000000 := by omega
  have c2 : -1000000 ≤ (n : Int) := by omega
  unfold b__law_own_C0
  simp [rowL_len, c1, c2]
  rw [lcRf (fun j => !decide (j = i)) (fun j => rq (ra (f j)))]
  · rw [rql_map]
  · intro j hj
    have e : decide ((j : Int) = (i : Int)) = decide (j = i) := by congr 1; apply propext; omega
    refine ⟨by simp [e], fun _ => ?_⟩
    unfold b__law_own_C0e
    rw [← rq_abs]
    simp [ix_rowL hj]
theorem filter_len {n : Nat} {p : Nat → Bool} (hn : n ≤ 6) : ((List.range n).filter p).length ≤ 6 := by
  have := List.length_filter_le p (List.range n)
  simp at this
  omega
theorem offs_is {n i : Nat} {f : Nat → Rat} : (((List.range n).filter fun j => !decide (j = i)).map fun j => ra (f j)).sum = offs n f i := by
  rw [sum_filter]
  refine sm_congr fun c _ => ?_
  by_cases h : c = i <;> simp [h]
theorem total_eq {n i : Nat} {f : Nat → Rat} (hn : n ≤ 6) (hf : ∀ c, c < n → Bt 20 (f c)) : RV.m__law_sum [rql (((List.range n).filter fun j => !decide (j = i)).map fun j => ra (f j))] = .ok (rq (offs n f i)) := by
  rw [sum_eq (k := 20) (fun x hx => ?_) (hl := by rw [List.length_map]; exact Nat.le_trans (filter_len hn) (by decide)), offs_is]
  obtain ⟨j, hj, rfl⟩ := List.mem_map.mp hx
  exact ra_bt (hf j (List.mem_range.mp (List.mem_filter.mp hj).1))
theorem own_ok {n i : Nat} {f : Nat → Rat} {c : Int} (hn : n ≤ 6) (hi : i < n) (hf : ∀ j, j < n → Cn 2520 15120 (f j)) :
    ∃ d : Rat, m__law_own [rql (rowL n f), .int i, .int c] = .ok (rql (rowL n fun j => if j = i then d else f j)) ∧ offs n f i < ra d ∧ Cn 2520 120960 d := by
  have fb : ∀ j, j < n → Bt 20 (f j) := fun j hj => Bt.cn (hf j hj) (by decide) (by decide) (by decide)
  have ob : Cn 2520 90720 (offs n f i) := (offs_cn hf).mono (by have : n * 15120 ≤ 6 * 15120 := Nat.mul_le_mul hn (Nat.le_refl _); omega)
  have h7 := @fmod_lt c 7 (by decide)
  have h9 := @fmod_lt (c.fdiv 7) 9 (by decide)
  have d7 : CDivX c 7 := divx (b := 3) (by decide) (by decide)
  have d63 : CDivX c 63 := divx (b := 6) (by decide) (by decide)
  have m7 : ∀ x, CModX x 7 := fun _ => modx
  have m9 : ∀ x, CModX x 9 := fun _ => modx
  have m2 : ∀ x, CModX x 2 := fun _ => modx
  have lo := low_eq (n := 1 + c.fmod 7) (d := 1 + (c.fdiv 7).fmod 9) (by omega) (p2 (k := 4) (by omega)) (p2 (k := 4) (by omega))
  have mc : Cn 2520 (7 * 2520) (Rat.divInt (1 + c.fmod 7) (1 + (c.fdiv 7).fmod 9)) := cn_of (by omega) (by omega) (by omega)
  have mp : 0 < Rat.divInt (1 + c.fmod 7) (1 + (c.fdiv 7).fmod 9) := by
    have z := (Rat.divInt_nonneg_iff_of_pos_right (a := 1 + c.fmod 7) (b := 1 + (c.fdiv 7).fmod 9) (by omega)).mpr (by omega)
    have z2 : Rat.divInt (1 + c.fmod 7) (1 + (c.fdiv 7).fmod 9) ≠ 0 := by
      intro e
      have := Rat.divInt_eq_divInt_iff (n₁ := 1 + c.fmod 7) (d₁ := 1 + (c.fdiv 7).fmod 9) (n₂ := 0) (d₂ := 1) (by omega) (by decide)
      rw [e, Rat.zero_divInt] at this
      have := this.mp rfl
      omega
    grind
  generalize Rat.divInt (1 + c.fmod 7) (1 + (c.fdiv 7).fmod 9) = more at lo mc mp
  have oc : Cn 2520 108360 (offs n f i + more) := (ob.add mc (by decide)).mono (by decide)
  have sp := sum_pair (Bt.cn ob (k := 20) (by decide) (by decide) (by decide)) (Bt.cn mc (k := 20) (by decide) (by decide) (by decide))
  have on := @offs_nonneg n i f
  have t1 := total_eq (i := i) hn fb
  have c0 := own_c0 (f := f) (c := .int c) hn hi
  have fin : ∀ d : Rat, fAdd (rql (cutD (rowL n f) none (some (i : Int)))) (rql [d]) = some (rql ((rowL n f).take i ++ [d])) ∧ fAdd (rql ((rowL n f).take i ++ [d])) (rql (cutD (rowL n f) (some ((i : Int) + 1)) none)) = some (rql (rowL n fun j => if j = i then d else f j)) := fun d => by
    rw [cutD_to, show ((i : Int) + 1) = ((i + 1 : Nat) : Int) by omega, cutD_from]
    rw [fAdd_rql (by simp [rowL]; omega), fAdd_rql (by simp [rowL]; omega)]
    refine ⟨rfl, ?_⟩
    unfold rowL
    rw [put_list hi]
  unfold m__law_own
  simp only [mDef_eq]
  unfold b__law_own
  by_cases h : (c.fdiv 63).fmod 2 = 1
  · refine ⟨-(offs n f i + more), ?_, ?_, (oc.mono (by decide)).neg⟩
    · have ng := @rq_neg (offs n f i + more)
      simp only [Int.zero_sub] at ng
      simp [c0, t1, m7, m9, m2, d7, d63, lo, rql_two, sp, h, fSl_rql]
      rw [ng, rql_one, (fin _).1]
      simp [fSl_rql, (fin _).2]
    · rw [ra_neg]
      unfold ra
      split <;> grind
  · refine ⟨offs n f i + more, ?_, ?_, oc.mono (by decide)⟩
    · simp [c0, t1, m7, m9, m2, d7, d63, lo, rql_two, sp, h, fSl_rql]
      rw [rql_one, (fin _).1]
      simp [fSl_rql, (fin _).2]
    · unfold ra
      split <;> grind
theorem weak_c0 {n i : Nat} {f : Nat → Rat} {R1 c : D} (hn : n ≤ 6) (hi : i < n) : b__law_weak_C0 [R1, c, .int i, rql (rowL n f), .non, .non] = .ok (rql (((List.range n).filter fun j => !decide (j = i)).map fun j => ra (f j))) [R1, c, .int i, rql (rowL n f), .non, .non] := by
  have c1 : (n : Int) ≤ 1000000 := by omega
  have c2 : -1000000 ≤ (n : Int) := by omega
  unfold b__law_weak_C0
  simp [rowL_len, c1, c2]
  rw [lcRf (fun j => !decide (j = i)) (fun j => rq (ra (f j)))]
  · rw [rql_map]
  · intro j hj
    have e : decide ((j : Int) = (i : Int)) = decide (j = i) := by congr 1; apply propext; omega
    refine ⟨by simp [e], fun _ => ?_⟩
    unfold b__law_weak_C0e
    rw [← rq_abs]
    simp [ix_rowL hj]
def fifth : Rat := ⟨-1, 5, by decide, by decide⟩
theorem fifth_is : (.tup [.int (-1), .int 5] : D) = rq fifth := rfl
theorem fifth_neg : fifth < 0 := by decide
def part (q : Nat) (h : 2 ≤ q) : Rat := ⟨1, q, by omega, by simp⟩
theorem part_le (q : Nat) (h : 2 ≤ q) : 0 ≤ part q h ∧ part q h ≤ 1 := by
  constructor
  · rw [← Rat.num_nonneg]
    show (0 : Int) ≤ 1
    decide
  · rw [Rat.le_iff]
    show (1 : Int) * 1 ≤ 1 * (q : Int)
    omega
/-- a row whose own ratio is not greater than the others -/
def weakT (M : Tb) (i : Nat) (t : Rat) : Tb := fun r => if r = i then fun j => if j = i then t else M i j else M r
theorem weak_not {n i : Nat} {M : Tb} {t : Rat} (hi : i < n) (ht : ra t ≤ offs n (M i) i) : ¬ Dom n (weakT M i t) := fun h => by
  have := h i hi
  have e : offs n (weakT M i t i) i = offs n (M i) i := by
    unfold offs
    refine sm_congr fun c _ => ?_
    by_cases q : c = i <;> simp [weakT, q]
  rw [e] at this
  simp [weakT] at this
  grind
theorem weak_ok {n : Nat} {M : Tb} {c : Int} (hn : n ≤ 6) (h0 : 0 < n) (hM : ∀ r, r < n → ∀ j, j < n → Cn 2520 120960 (M r j)) :
    ∃ M' : Tb, m__law_weak [rqm (rowsL n M), .int c] = .ok (rqm (rowsL n M')) ∧ ¬ Dom n M' ∧ ∀ r, r < n → ∀ j, j < n → Bt 39 (M' r j) := by
  have mn : CModX c n := by unfold CModX; omega
  have hm := @fmod_lt c n (by omega)
  obtain ⟨i, ei, hi⟩ : ∃ i : Nat, c.fmod n = i ∧ i < n := ⟨(c.fmod n).toNat, by omega, by omega⟩
  have fb : ∀ r, r < n → ∀ j, j < n → Bt 20 (M r j) := fun r hr j hj => Bt.cn (hM r hr j hj) (by decide) (by decide) (by decide)
  have ob : Cn 2520 725760 (offs n (M i) i) := (offs_cn (hM i hi)).mono (by have : n * 120960 ≤ 6 * 120960 := Nat.mul_le_mul hn (Nat.le_refl _); omega)
  have obt : Bt 20 (offs n (M i) i) := Bt.cn ob (by decide) (by decide) (by decide)
  have on := @offs_nonneg n i (M i)
  have t1 := total_eq (i := i) hn (fb i hi)
  have c0 := weak_c0 (f := M i) (R1 := rqm (rowsL n M)) (c := .int c) hn hi
  have ixr : fIx (rqm (rowsL n M)) (.int i) = some (rql (rowL n (M i))) := by
    rw [ix_rqm (by rw [rowsL_len]; exact hi)]
    unfold row rowsL
    rw [List.getD_eq_getElem?_getD, List.getElem?_map, List.getElem?_range hi]
    rfl
  have d5 : CDivX c 5 := divx (b := 3) (by decide) (by decide)
  have d6 : CDivX c 6 := divx (b := 3) (by decide) (by decide)
  have d24 : CDivX c 24 := divx (b := 5) (by decide) (by decide)
  have m2 : ∀ x, CModX x 2 := fun _ => modx
  have m4 : ∀ x, CModX x 4 := fun _ => modx
  have m9 : ∀ x, CModX x 9 := fun _ => modx
  -- the end, whatever the total
  have fin : ∀ (t : Rat) (X Y : D) (ρ : List D), ρ = [rqm (rowsL n M), X, .int i, rql (rowL n (M i)), rq t, Y] → b__law_weak_T7 ρ = .ret (rqm (rowsL n (weakT M i t))) ρ := by
    intro t X Y ρ e
    subst e
    have e1 : ((i : Int) + 1) = ((i + 1 : Nat) : Int) := by omega
    have a1 : fAdd (rql ((rowL n (M i)).take i)) (rql [t]) = some (rql ((rowL n (M i)).take i ++ [t])) := fAdd_rql (by simp [rowL]; omega)
    have a2 : fAdd (rql ((rowL n (M i)).take i ++ [t])) (rql ((rowL n (M i)).drop (i + 1))) = some (rql (rowL n fun j => if j = i then t else M i j)) := by
      rw [fAdd_rql (by simp [rowL]; omega)]
      unfold rowL
      rw [put_list hi]
    have a3 : fAdd (rqm ((rowsL n M).take i)) (rqm [rowL n fun j => if j = i then t else M i j]) = some (rqm ((rowsL n M).take i ++ [rowL n fun j => if j = i then t else M i j])) := fAdd_rqm (by simp [rowsL]; omega)
    have a4 : fAdd (rqm ((rowsL n M).take i ++ [rowL n fun j => if j = i then t else M i j])) (rqm ((rowsL n M).drop (i + 1))) = some (rqm (rowsL n (weakT M i t))) := by
      rw [fAdd_rqm (by simp [rowsL]; omega)]
      unfold rowsL
      rw [put_list hi]
      congr 2
      refine List.map_congr_left fun r _ => ?_
      unfold weakT
      split <;> rfl
    have s1 : fSl none (some (i : Int)) (rql (rowL n (M i))) = some (rql ((rowL n (M i)).take i)) := by rw [fSl_rql, cutD_to]
    have s2 : fSl (some ((i : Int) + 1)) none (rql (rowL n (M i))) = some (rql ((rowL n (M i)).drop (i + 1))) := by rw [fSl_rql, e1, cutD_from]
    have s3 : fSl none (some (i : Int)) (rqm (rowsL n M)) = some (rqm ((rowsL n M).take i)) := by rw [fSl_rqm, cutD_to]
    have s4 : fSl (some ((i : Int) + 1)) none (rqm (rowsL n M)) = some (rqm ((rowsL n M).drop (i + 1))) := by rw [fSl_rqm, e1, cutD_from]
    unfold b__law_weak_T7
    simp [s1, s2, s3, s4, rql_one, a1, a2, rqm_one, a3, a4]
  have six : ∀ (s : Rat) (Y : D), 0 ≤ s → ∃ t ρ, ra t = s ∧ (t = s ∨ t = -s) ∧ b__law_weak_T6 [rqm (rowsL n M), .int c, .int i, rql (rowL n (M i)), rq s, Y] = .ret (rqm (rowsL n (weakT M i t))) ρ := by
    intro s Y hs
    by_cases h : (c.fdiv 5).fmod 2 = 1
    · have ng := @rq_neg s
      simp only [Int.zero_sub] at ng
      refine ⟨-s, [rqm (rowsL n M), .non, .int i, rql (rowL n (M i)), rq (-s), .non], ?_, .inr rfl, ?_⟩
      · rw [ra_neg]; unfold ra; split <;> grind
      · unfold b__law_weak_T6
        simp [d5, m2, h]
        rw [ng, fin (-s) _ _ _ rfl]
    · refine ⟨s, [rqm (rowsL n M), .non, .int i, rql (rowL n (M i)), rq s, .non], ?_, .inl rfl, ?_⟩
      · unfold ra; split <;> grind
      · unfold b__law_weak_T6
        simp [d5, m2, h]
        rw [fin s _ _ _ rfl]
  have main : ∃ s : Rat, 0 ≤ s ∧ s ≤ offs n (M i) i ∧ Bt 39 s ∧ b__law_weak_T3 [rqm (rowsL n M), .int c, .int i, rql (rowL n (M i)), rq (offs n (M i) i), .non] = b__law_weak_T6 [rqm (rowsL n M), .int c, .int i, rql (rowL n (M i)), rq s, .non] := by
    have h4 := @fmod_lt (c.fdiv 6) 4 (by decide)
    by_cases k1 : (c.fdiv 6).fmod 4 = 1
    · have fc : Cn 2520 504 fifth := ⟨-504, by decide, by decide⟩
      have sc := ob.add fc (by decide)
      have sp := sum_pair obt (Bt.cn fc (k := 20) (by decide) (by decide) (by decide))
      by_cases ng : (offs n (M i) i + fifth).num < 0
      · refine ⟨0, Rat.le_refl, on, .zero (by decide), ?_⟩
        unfold b__law_weak_T3
        simp [d6, m4, k1, fifth_is, rql_two, sp, ng]
        rfl
      · have nn : ¬ offs n (M i) i + fifth < 0 := fun z => ng (num_neg_iff.mpr z)
        have fn := fifth_neg
        refine ⟨offs n (M i) i + fifth, by grind, by grind, (Bt.cn sc (k := 20) (by decide) (by decide) (by decide)).mono (by decide), ?_⟩
        unfold b__law_weak_T3
        simp [d6, m4, k1, fifth_is, rql_two, sp, ng]
    · by_cases k2 : (c.fdiv 6).fmod 4 = 2
      · have h9 := @fmod_lt (c.fdiv 24) 9 (by decide)
        obtain ⟨q, eq, q2, q9⟩ : ∃ q : Nat, 2 + (c.fdiv 24).fmod 9 = q ∧ 2 ≤ q ∧ q ≤ 10 := ⟨(2 + (c.fdiv 24).fmod 9).toNat, by omega, by omega, by omega⟩
        have pl := part_le q q2
        have pb : Bt 4 (part q q2) := ⟨by show 1 < 2 ^ 4; decide, by show q < 2 ^ 4; omega⟩
        have tm := ltimes_eq obt pb (by decide)
        have pi : (.tup [.int 1, .int (q : Int)] : D) = rq (part q q2) := rfl
        refine ⟨offs n (M i) i * part q q2, Rat.mul_nonneg on pl.1, ?_, (obt.mul pb).mono (by decide), ?_⟩
        · have := Rat.mul_le_mul_of_nonneg_left pl.2 on
          rw [Rat.mul_one] at this
          exact this
        · unfold b__law_weak_T3
          simp [d6, d24, m4, m9, k1, k2, eq, pi, tm]
      · by_cases k3 : (c.fdiv 6).fmod 4 = 3
        · refine ⟨0, Rat.le_refl, on, .zero (by decide), ?_⟩
          unfold b__law_weak_T3
          simp [d6, m4, k1, k2, k3]
          rfl
        · refine ⟨_, on, Rat.le_refl, obt.mono (by decide), ?_⟩
          unfold b__law_weak_T3
          simp [d6, m4, k1, k2, k3]
  obtain ⟨s, s0, sle, sb, e3⟩ := main
  obtain ⟨t, ρ, tr, tt, e6⟩ := six s .non s0
  refine ⟨weakT M i t, ?_, weak_not hi (by rw [tr]; exact sle), fun r hr j hj => ?_⟩
  · unfold m__law_weak
    rw [mDef_eq]
    unfold b__law_weak
    simp [rowsL_len, mn, ei, ixr, c0, t1, e3, e6]
  · have tb : Bt 39 t := by
      rcases tt with rfl | rfl
      · exact sb
      · exact ⟨by simpa using sb.n, sb.d⟩
    unfold weakT
    split
    · show Bt 39 (if j = i then t else M i j)
      split
      · exact tb
      · exact (fb i hi j hj).mono (by decide)
    · exact (fb r hr j hj).mono (by decide)
/-! ### the law -/
theorem dot_rowL {n : Nat} {f x : Nat → Rat} : dot (rowL n f) (rowL n x) = sm n fun c => f c * x c := by
  unfold dot
  rw [rowL_len]
  refine sm_congr fun c hc => ?_
  rw [rowL_at hc, rowL_at hc]
theorem mulv_rows {n : Nat} {M : Tb} {x v : Nat → Rat} (h : ∀ r, r < n → sm n (fun c => M r c * x c) = v r) : mulv (rowsL n M) (rowL n x) = rowL n v := by
  unfold mulv rowsL
  rw [List.map_map]
  refine List.map_congr_left fun r hr => ?_
  show dot (rowL n (M r)) (rowL n x) = v r
  rw [dot_rowL, h r (List.mem_range.mp hr)]
theorem bts_rowL {k n : Nat} {f : Nat → Rat} (h : ∀ c, c < n → Bt k (f c)) : Bts k (rowL n f) := .range h
theorem rows_mem {k n : Nat} {M : Tb} (h : ∀ r, r < n → ∀ c, c < n → Bt k (M r c)) : ∀ r ∈ rowsL n M, Bts k r ∧ r.length = n := fun r hr => by
  obtain ⟨i, hi, rfl⟩ := List.mem_map.mp hr
  exact ⟨bts_rowL (h i (List.mem_range.mp hi)), rowL_len⟩
theorem rw_aug {n D B b : Nat} {M : Tb} {v : Nat → Rat} (D0 : 0 < D) (hD : D < 2 ^ b) (hB : B < 2 ^ b) (hM : ∀ r, r < n → ∀ c, c < n → Cn D B (M r c)) (hv : ∀ r, r < n → Cn D B (v r)) : ∀ r, r < n → Rw b (n + 1) (aug n M v r) := fun r hr =>
  ⟨D, D0, hD, fun c hc => by
    unfold aug
    split
    · rename_i h; exact (hM r hr c h).cd hB
    · exact (hv r hr).cd hB⟩
theorem bb_fits {b n : Nat} (hn : n ≤ 6) (h : bb b 6 ≤ 3325) : bb b n + bb b n + bb b n + bb b n ≤ 13300 ∧ bb b n ≤ 3325 := by
  have := bb_le (b := b) hn
  omega
/-- dominant rows: solve tells the one solution -/
theorem solve_dom {b n D B : Nat} {M : Tb} {v : Nat → Rat} (hd : ∀ z : Nat → Rat, (∀ r, r < n → sm n (fun c => M r c * z c) = 0) → ∀ c, c < n → z c = 0) (D0 : 0 < D) (hD : D < 2 ^ b) (hB : B < 2 ^ b) (hM : ∀ r, r < n → ∀ c, c < n → Cn D B (M r c)) (hv : ∀ r, r < n → Cn D B (v r)) (hn : n ≤ 6) (h : bb b 6 ≤ 3325) :
    ∃ x : Nat → Rat, RV.m_solve [rqm (rowsL n M), rql (rowL n v)] = .ok (rql (rowL n x)) ∧ (∀ r, r < n → sm n (fun c => M r c * x c) = v r) ∧ (∀ y : Nat → Rat, (∀ r, r < n → sm n (fun c => M r c * y c) = v r) → rowL n y = rowL n x) ∧ ∀ c, c < n → Bt (bb b 6) (x c) := by
  rcases solve_eq (rw_aug D0 hD hB hM hv) (bb_fits hn h).1 (by omega) with ⟨x, e, h1, h2, h3⟩ | ⟨_, z, ⟨c, hc, hz⟩, hk⟩
  · exact ⟨x, e, h1, fun y hy => rowL_congr (h2 y hy), fun c hc => (h3 c hc).mono (bb_le hn)⟩
  · exact absurd (hd z hk c hc) hz
theorem sm_scale {n : Nat} {f : Nat → Rat} {k : Rat} : sm n (fun c => k * f c) = k * sm n f := by
  induction n with
  | zero => rw [sm_zero, sm_zero]; grind
  | succ n ih => rw [sm_succ, sm_succ, ih]; grind
theorem c0_eq {ns : List Int} {n : Nat} {d : Nat → Rat} {L : D} (hn : n ≤ 6) (h : ∀ r, r < n → m__law_own [rql (rowL n (drawn ns 4 n r)), .int r, .int (cellZ ns (41 + r))] = .ok (rql (rowL n fun j => if j = r then d r else drawn ns 4 n r j))) :
    b_law_C0 [.scr ns, .int n, rqm (rowsL n (drawn ns 4 n)), .non, .non, .non, .non, .non, .non, .non, .non, .non, .non, .non, .non] = .ok (rqm (rowsL n fun r j => if j = r then d r else drawn ns 4 n r j)) [.scr ns, .int n, rqm (rowsL n (drawn ns 4 n)), .non, .non, .non, .non, .non, .non, .non, .non, .non, .non, .non, .non] := by
  have c1 : (n : Int) ≤ 1000000 := by omega
  have c2 : -1000000 ≤ (n : Int) := by omega
  unfold b_law_C0
  simp [c1, c2]
  rw [lcR (fun r => rql (rowL n fun j => if j = r then d r else drawn ns 4 n r j)), rqm_map]
  · rfl
  intro r hr
  have e := cell_is ns (41 + r) (by omega)
  push_cast at e
  have ix : fIx (rqm (rowsL n (drawn ns 4 n))) (.int r) = some (rql (rowL n (drawn ns 4 n r))) := by
    rw [ix_rqm (by rw [rowsL_len]; exact hr)]
    unfold row rowsL
    rw [List.getD_eq_getElem?_getD, List.getElem?_map, List.getElem?_range hr]
    rfl
  unfold b_law_C0e
  simp [ix, e, h r hr]
theorem c1_eq {ns : List Int} {n : Nat} {L : D} (hn : n ≤ 6) : b_law_C1 [.scr ns, .int n, L, .non, .non, .non, .non, .non, .non, .non, .non, .non, .non, .non, .non] = .ok (rql (rowL n fun j => smallR (cellZ ns (48 + j)))) [.scr ns, .int n, L, .non, .non, .non, .non, .non, .non, .non, .non, .non, .non, .non, .non] := by
  have c1 : (n : Int) ≤ 1000000 := by omega
  have c2 : -1000000 ≤ (n : Int) := by omega
  unfold b_law_C1
  simp [c1, c2]
  rw [lcR (fun j => rq (smallR (cellZ ns (48 + j)))), rql_range]
  · rfl
  intro j hj
  have e := cell_is ns (48 + j) (by omega)
  push_cast at e
  unfold b_law_C1e
  simp [e, small_is]
theorem turn_rows {n t : Nat} {M : Tb} (ht : t < n) (hn : n ≤ 6) : fSl (some (t : Int)) none (rqm (rowsL n M)) = some (rqm ((rowsL n M).drop t)) ∧ fSl none (some (t : Int)) (rqm (rowsL n M)) = some (rqm ((rowsL n M).take t)) ∧ fAdd (rqm ((rowsL n M).drop t)) (rqm ((rowsL n M).take t)) = some (rqm (rowsL n fun r => M ((r + t) % n))) := by
  refine ⟨by rw [fSl_rqm, cutD_from], by rw [fSl_rqm, cutD_to], ?_⟩
  rw [fAdd_rqm (by simp [rowsL]; omega)]
  unfold rowsL
  rw [turn_list ht]
theorem turn_row {n t : Nat} {f : Nat → Rat} (ht : t < n) (hn : n ≤ 6) : fSl (some (t : Int)) none (rql (rowL n f)) = some (rql ((rowL n f).drop t)) ∧ fSl none (some (t : Int)) (rql (rowL n f)) = some (rql ((rowL n f).take t)) ∧ fAdd (rql ((rowL n f).drop t)) (rql ((rowL n f).take t)) = some (rql (rowL n fun r => f ((r + t) % n))) := by
  refine ⟨by rw [fSl_rql, cutD_from], by rw [fSl_rql, cutD_to], ?_⟩
  rw [fAdd_rql (by simp [rowL]; omega)]
  unfold rowL
  rw [turn_list ht]
section
variable {n t : Nat} {M : Tb} {v x : Nat → Rat} {p : Rat} {Wk Kp X Tn S9 : D}
theorem c3_eq {f : Nat → Rat} (hn : n ≤ 6) (hf : ∀ c, c < n → Bt 20 (f c)) (hp : Bt 20 p) (A B C E1 F1 : D) : b_law_C3 [.non, .non, A, B, C, E1, F1, Tn, rq p, .non, .non, .non, .non, rql (rowL n f), .non] = .ok (rql (rowL n fun c => p * f c)) [.non, .non, A, B, C, E1, F1, Tn, rq p, .non, .non, .non, .non, rql (rowL n f), .non] := by
  unfold b_law_C3
  simp
  rw [show (rowL n f).map rq = (List.range n).map fun c => rq (f c) by unfold rowL; rw [List.map_map]; rfl, lcX (fun c => rq (p * f c)) (List.range n), rql_range]
  · rfl
  intro c hc
  have tm := ltimes_eq hp (hf c (List.mem_range.mp hc)) (by decide)
  unfold b_law_C3e
  simp [tm]
theorem c2_eq (hn : n ≤ 6) (ht : t < n) (hM : ∀ r, r < n → ∀ c, c < n → Bt 20 (M r c)) (hp : Bt 20 p) : b_law_C2 [.non, .non, rqm (rowsL n M), rql (rowL n v), Wk, Kp, X, .int t, rq p, .non, .non, .non, .non, .non, .non] = .ok (rqm (rowsL n fun r c => p * M ((r + t) % n) c)) [.non, .non, rqm (rowsL n M), rql (rowL n v), Wk, Kp, X, .int t, rq p, .non, .non, .non, .non, .non, .non] := by
  obtain ⟨s1, s2, s3⟩ := turn_rows (M := M) ht hn
  unfold b_law_C2
  simp [s1, s2, s3]
  rw [show (rowsL n fun r => M ((r + t) % n)).map rql = (List.range n).map fun r => rql (rowL n (M ((r + t) % n))) by unfold rowsL; rw [List.map_map]; rfl, lcX (fun r => rql (rowL n fun c => p * M ((r + t) % n) c)) (List.range n), rqm_map]
  · rfl
  intro r hr
  have hm : (r + t) % n < n := Nat.mod_lt _ (by omega)
  have := c3_eq (Tn := .int t) hn (hM _ hm) hp (rqm (rowsL n M)) (rql (rowL n v)) Wk Kp X
  unfold b_law_C2e
  simp [this]
theorem c4_eq (hn : n ≤ 6) (ht : t < n) (hv : ∀ r, r < n → Bt 20 (v r)) (hp : Bt 20 p) : b_law_C4 [.non, .non, rqm (rowsL n M), rql (rowL n v), Wk, Kp, X, .int t, rq p, S9, .non, .non, .non, .non, .non] = .ok (rql (rowL n fun r => p * v ((r + t) % n))) [.non, .non, rqm (rowsL n M), rql (rowL n v), Wk, Kp, X, .int t, rq p, S9, .non, .non, .non, .non, .non] := by
  obtain ⟨s1, s2, s3⟩ := turn_row (f := v) ht hn
  unfold b_law_C4
  simp [s1, s2, s3]
  rw [show (rowL n fun r => v ((r + t) % n)).map rq = (List.range n).map fun r => rq (v ((r + t) % n)) by unfold rowL; rw [List.map_map]; rfl, lcX (fun r => rq (p * v ((r + t) % n))) (List.range n), rql_range]
  · rfl
  intro r hr
  have hm : (r + t) % n < n := Nat.mod_lt _ (by omega)
  have tm := ltimes_eq hp (hv _ hm) (by decide)
  unfold b_law_C4e
  simp [tm]
theorem two_is : (.tup [.int 2, .int 1] : D) = rq 2 := rfl
theorem two_bt : Bt 2 (2 : Rat) := ⟨by decide, by decide⟩
theorem c5_eq (hn : n ≤ 6) (hv : ∀ r, r < n → Bt 20 (v r)) : b_law_C5 [.non, .non, rqm (rowsL n M), rql (rowL n v), Wk, Kp, X, .non, .non, .non, .non, .non, .non, .non, .non] = .ok (rql (rowL n fun r => 2 * v r)) [.non, .non, rqm (rowsL n M), rql (rowL n v), Wk, Kp, X, .non, .non, .non, .non, .non, .non, .non, .non] := by
  unfold b_law_C5
  simp
  rw [show (rowL n v).map rq = (List.range n).map fun r => rq (v r) by unfold rowL; rw [List.map_map]; rfl, lcX (fun r => rq (2 * v r)) (List.range n), rql_range]
  · rfl
  intro r hr
  have tm := ltimes_eq two_bt (hv r (List.mem_range.mp hr)) (by decide)
  unfold b_law_C5e
  simp [two_is, tm]
theorem c6_eq {k : Nat} (hn : n ≤ 6) (hk : k ≤ 3400) (hx : ∀ r, r < n → Bt k (x r)) {S11 : D} : b_law_C6 [.non, .non, rqm (rowsL n M), rql (rowL n v), Wk, Kp, rql (rowL n x), .non, .non, .non, .non, S11, .non, .non, .non] = .ok (rql (rowL n fun r => 2 * x r)) [.non, .non, rqm (rowsL n M), rql (rowL n v), Wk, Kp, rql (rowL n x), .non, .non, .non, .non, S11, .non, .non, .non] := by
  unfold b_law_C6
  simp
  rw [show (rowL n x).map rq = (List.range n).map fun r => rq (x r) by unfold rowL; rw [List.map_map]; rfl, lcX (fun r => rq (2 * x r)) (List.range n), rql_range]
  · rfl
  intro r hr
  have tm := ltimes_eq two_bt (hx r (List.mem_range.mp hr)) (by omega)
  unfold b_law_C6e
  simp [two_is, tm]
end
theorem mod_back {n t r : Nat} (ht : t < n) (hr : r < n) : ∃ q, q < n ∧ (q + t) % n = r := by
  by_cases e : t ≤ r
  · exact ⟨r - t, by omega, by rw [show r - t + t = r by omega, Nat.mod_eq_of_lt hr]⟩
  · exact ⟨r + n - t, by omega, by rw [show r + n - t + t = r + n by omega, Nat.add_mod_right, Nat.mod_eq_of_lt hr]⟩
/-- the rows, their right sides, their solution -/
structure Sys (n : Nat) (M : Tb) (v x : Nat → Rat) : Prop where
  dm : Dom n M
  mc : ∀ r, r < n → ∀ c, c < n → Cn 2520 120960 (M r c)
  vc : ∀ r, r < n → Cn 2520 15120 (v r)
  so : ∀ r, r < n → sm n (fun c => M r c * x c) = v r
  xb : ∀ c, c < n → Bt 1151 (x c)
theorem t14_eq {n t : Nat} {M : Tb} {v x : Nat → Rat} {p : Rat} {Wm : List (List Rat)} {st : Str} (hn : n ≤ 6) (ht : t < n) (S : Sys n M v x) (p0 : p ≠ 0) (pc : Cn 2520 15120 p) (rp : fRepr (.lst [rqm (rowsL n M), rqm Wm, rql (rowL n v)]) = some (.str st)) :
    (b_law_T14 [.non, .non, rqm (rowsL n M), rql (rowL n v), rqm Wm, .str st, rql (rowL n x), .int t, rq p, .non, .non, .non, .non, .non, .non]).done .d = .ok (.bl true) := by
  have mb : ∀ r, r < n → ∀ c, c < n → Bt 20 (M r c) := fun r hr c hc => Bt.cn (S.mc r hr c hc) (by decide) (by decide) (by decide)
  have vb : ∀ r, r < n → Bt 20 (v r) := fun r hr => Bt.cn (S.vc r hr) (by decide) (by decide) (by decide)
  have pb : Bt 20 p := Bt.cn pc (by decide) (by decide) (by decide)
  have hm : ∀ r, (r + t) % n < n := fun r => Nat.mod_lt _ (by omega)
  have k1 : ∀ z : Nat → Rat, (∀ r, r < n → sm n (fun c => p * M ((r + t) % n) c * z c) = 0) → ∀ c, c < n → z c = 0 := fun z hz => S.dm.kernel fun r hr => by
    obtain ⟨q, hq, e⟩ := mod_back ht hr
    have := hz q hq
    rw [e, sm_congr (g := fun c => p * (M r c * z c)) fun c _ => Rat.mul_assoc .., sm_scale] at this
    grind
  obtain ⟨x1, e1, _, u1, _⟩ := solve_dom (b := 31) (n := n) (D := 2520 * 2520) (B := 15120 * 120960) (M := fun r c => p * M ((r + t) % n) c) (v := fun r => p * v ((r + t) % n)) k1 (by decide) (by decide) (by decide) (fun r hr c hc => pc.mul (S.mc _ (hm r) c hc)) (fun r hr => (pc.mul (S.vc _ (hm r))).mono (by decide)) hn (by decide)
  have u1' := u1 x fun r hr => by
    rw [sm_congr (g := fun c => p * (M ((r + t) % n) c * x c)) fun c _ => Rat.mul_assoc .., sm_scale, S.so _ (hm r)]
  obtain ⟨x2, e2, _, u2, _⟩ := solve_dom (b := 17) (n := n) (D := 2520) (B := 120960) (M := M) (v := fun r => 2 * v r) (fun z hz => S.dm.kernel hz) (by decide) (by decide) (by decide) S.mc (fun r hr => by
    obtain ⟨m, e, hm⟩ := S.vc r hr
    refine ⟨2 * m, ?_, by omega⟩
    rw [e, show (2 : Rat) = Rat.divInt 2 1 from by decide, Rat.divInt_mul_divInt, Int.one_mul]) hn (by decide)
  have u2' := u2 (fun c => 2 * x c) fun r hr => by
    rw [sm_congr (g := fun c => 2 * (M r c * x c)) fun c _ => by grind, sm_scale, S.so r hr]
  have g2 := c2_eq (v := v) (Wk := rqm Wm) (Kp := .str st) (X := rql (rowL n x)) hn ht mb pb
  have g4 := c4_eq (M := M) (Wk := rqm Wm) (Kp := .str st) (X := rql (rowL n x)) (S9 := rqm (rowsL n fun r c => p * M ((r + t) % n) c)) hn ht vb pb
  have g5 := c5_eq (M := M) (Wk := rqm Wm) (Kp := .str st) (X := rql (rowL n x)) hn vb
  have g6 := c6_eq (M := M) (v := v) (Wk := rqm Wm) (Kp := .str st) (S11 := rql (rowL n x2)) hn (by decide) S.xb
  rw [← u1'] at e1
  rw [← u2'] at e2
  have g6 := c6_eq (M := M) (v := v) (Wk := rqm Wm) (Kp := .str st) (S11 := rql (rowL n fun c => 2 * x c)) hn (by decide) S.xb
  unfold b_law_T14
  simp [g2, g4, e1, fNe_rql, g5, e2, g6, fEq_rql, rp]
theorem t11_eq {ns : List Int} {n : Nat} {M : Tb} {v x : Nat → Rat} {Wm : List (List Rat)} {st : Str} (hn : n ≤ 6) (h0 : 0 < n) (S : Sys n M v x) (rp : fRepr (.lst [rqm (rowsL n M), rqm Wm, rql (rowL n v)]) = some (.str st)) :
    (b_law_T11 [.scr ns, .int n, rqm (rowsL n M), rql (rowL n v), rqm Wm, .str st, rql (rowL n x), .non, .non, .non, .non, .non, .non, .non, .non]).done .d = .ok (.bl true) := by
  have k2 : RV.m__law_cell [.scr ns, .int 2] = .ok (.int (cellZ ns 2)) := cell_is ns 2 (by decide)
  have k3 : RV.m__law_cell [.scr ns, .int 3] = .ok (.int (cellZ ns 3)) := cell_is ns 3 (by decide)
  have mn : CModX (cellZ ns 2) n := by unfold CModX; omega
  have hm := @fmod_lt (cellZ ns 2) n (by omega)
  obtain ⟨t, et, ht⟩ : ∃ t : Nat, (cellZ ns 2).fmod n = t ∧ t < n := ⟨((cellZ ns 2).fmod n).toNat, by omega, by omega⟩
  have f53 : (.tup [.int 5, .int 3] : D) = rq (⟨5, 3, by decide, by decide⟩ : Rat) := rfl
  unfold b_law_T11
  by_cases hp : (smallR (cellZ ns 3)).num = 0
  · have := t14_eq (Wm := Wm) (st := st) hn ht S (p := ⟨5, 3, by decide, by decide⟩) (by decide) ⟨4200, by decide, by decide⟩ rp
    simp [k2, k3, mn, et, small_is, hp, f53]
    exact this
  · have := t14_eq (Wm := Wm) (st := st) hn ht S (p := smallR (cellZ ns 3)) (fun z => hp (Rat.num_eq_zero.mpr z)) (small_cn _) rp
    simp [k2, k3, mn, et, small_is, hp]
    exact this
theorem law_ok (ns : List Int) (h : ns.length ≤ 63) : m_law [.scr ns] = .ok (.bl true) := by
  have k0 : RV.m__law_cell [.scr ns, .int 0] = .ok (.int (cellZ ns 0)) := cell_is ns 0 (by decide)
  have k1 : RV.m__law_cell [.scr ns, .int 1] = .ok (.int (cellZ ns 1)) := cell_is ns 1 (by decide)
  have m6 : CModX (cellZ ns 0) 6 := modx
  obtain ⟨n, en, h0, hn⟩ : ∃ n : Nat, 1 + (cellZ ns 0).fmod 6 = n ∧ 0 < n ∧ n ≤ 6 := by
    have := @fmod_lt (cellZ ns 0) 6 (by decide)
    exact ⟨(1 + (cellZ ns 0).fmod 6).toNat, by omega, by omega, by omega⟩
  have dr : ∀ r j, Cn 2520 15120 (drawn ns 4 n r j) := fun r j => small_cn _
  have ow : ∀ r, ∃ d : Rat, r < n → m__law_own [rql (rowL n (drawn ns 4 n r)), .int r, .int (cellZ ns (41 + r))] = .ok (rql (rowL n fun j => if j = r then d else drawn ns 4 n r j)) ∧ offs n (drawn ns 4 n r) r < ra d ∧ Cn 2520 120960 d := fun r => by
    by_cases hr : r < n
    · obtain ⟨d, h1⟩ := own_ok (c := cellZ ns (41 + r)) hn hr (fun j _ => dr r j)
      exact ⟨d, fun _ => h1⟩
    · exact ⟨0, fun z => absurd z hr⟩
  obtain ⟨d, hd⟩ : ∃ d : Nat → Rat, ∀ r, r < n → m__law_own [rql (rowL n (drawn ns 4 n r)), .int r, .int (cellZ ns (41 + r))] = .ok (rql (rowL n fun j => if j = r then d r else drawn ns 4 n r j)) ∧ offs n (drawn ns 4 n r) r < ra (d r) ∧ Cn 2520 120960 (d r) := ⟨fun r => (ow r).choose, fun r hr => (ow r).choose_spec hr⟩
  have g0 := c0_eq (L := .non) hn fun r hr => (hd r hr).1
  have g1 := c1_eq (ns := ns) (n := n) (L := rqm (rowsL n fun r j => if j = r then d r else drawn ns 4 n r j)) hn
  have lr : RV.m__law_rows [.scr ns, .int 4, .int n] = .ok (rqm (rowsL n (drawn ns 4 n))) := lrows_eq (ns := ns) (a := 4) (n := n) (by decide) hn
  obtain ⟨M, eM⟩ : ∃ M : Tb, M = fun r j => if j = r then d r else drawn ns 4 n r j := ⟨_, rfl⟩
  have mc : ∀ r, r < n → ∀ c, c < n → Cn 2520 120960 (M r c) := fun r hr c hc => by
    rw [eM]
    show Cn 2520 120960 (if c = r then d r else drawn ns 4 n r c)
    split
    · exact (hd r hr).2.2
    · exact (dr r c).mono (by decide)
  have dm : Dom n M := fun r hr => by
    have e : offs n (M r) r = offs n (drawn ns 4 n r) r := by
      rw [eM]
      unfold offs
      refine sm_congr fun c _ => ?_
      by_cases q : c = r <;> simp [q]
    rw [e, eM]
    simpa using (hd r hr).2.1
  rw [← eM] at g0 g1
  obtain ⟨v, ev⟩ : ∃ v : Nat → Rat, v = fun j => smallR (cellZ ns (48 + j)) := ⟨_, rfl⟩
  have vc : ∀ r, r < n → Cn 2520 15120 (v r) := fun r _ => by rw [ev]; exact small_cn _
  rw [← ev] at g1
  have mb : ∀ r, r < n → ∀ c, c < n → Bt 20 (M r c) := fun r hr c hc => Bt.cn (mc r hr c hc) (by decide) (by decide) (by decide)
  have vb : ∀ r, r < n → Bt 20 (v r) := fun r hr => Bt.cn (vc r hr) (by decide) (by decide) (by decide)
  obtain ⟨x, e1, so, _, xb⟩ := solve_dom (b := 17) (n := n) (D := 2520) (B := 120960) (M := M) (v := v) (fun z hz => dm.kernel hz) (by decide) (by decide) (by decide) mc (fun r hr => (vc r hr).mono (by decide)) hn (by decide)
  obtain ⟨W, ew, wd, wb⟩ := weak_ok (c := cellZ ns 1) hn h0 mc
  have rM := rows_mem mb
  have rW := rows_mem wb
  obtain ⟨st, rp⟩ := repr_three (A := rowsL n M) (B := rowsL n W) (v := rowL n v) (fun r hr => ⟨fun y hy => ((rM r hr).1 y hy).mono (by decide), by rw [(rM r hr).2]; exact hn⟩) (by rw [rowsL_len]; exact hn) (fun r hr => ⟨(rW r hr).1, by rw [(rW r hr).2]; exact hn⟩) (by rw [rowsL_len]; exact hn) (fun y hy => by
    obtain ⟨j, hj, rfl⟩ := List.mem_map.mp hy
    exact (vb j (List.mem_range.mp hj)).mono (by decide)) (by rw [rowL_len]; exact hn)
  obtain ⟨q1, d1, h1⟩ := dominant_eq (k := 20) (n := n) (M := M) (by have : n * 22 ≤ 6 * 22 := Nat.mul_le_mul hn (Nat.le_refl _); omega) mb
  obtain ⟨q2, d2, h2⟩ := dominant_eq (k := 39) (n := n) (M := W) (by have : n * 41 ≤ 6 * 41 := Nat.mul_le_mul hn (Nat.le_refl _); omega) wb
  have e3 : q1 = true := h1.mpr dm
  have e4 : q2 = false := by
    cases q2 with
    | true => exact absurd (h2.mp rfl) wd
    | false => rfl
  subst e3
  subst e4
  have S : Sys n M v x := ⟨dm, mc, vc, so, xb⟩
  have bx : Bts 1151 (rowL n x) := bts_rowL xb
  have sz : (rowL n x).length * (20 + 1151 + 2) + 1 + (20 + 1151) ≤ 13300 := by
    rw [rowL_len]
    have : n * 1173 ≤ 6 * 1173 := Nat.mul_le_mul hn (Nat.le_refl _)
    omega
  have lp := lproduct_eqN (k := 20) (l := 1151) (rows := rowsL n M) (v := rowL n x) (fun r hr => ⟨(rM r hr).1, by rw [rowL_len, (rM r hr).2]; exact Nat.le_refl _⟩) bx (by decide) (by decide) sz (by rw [rowL_len]; omega) (by rw [rowsL_len]; omega)
  have pp := product_eqN (k := 20) (l := 1151) (rows := rowsL n M) (v := rowL n x) (fun r hr => ⟨(rM r hr).1, by rw [rowL_len, (rM r hr).2]⟩) bx (by decide) (by decide) sz (by rw [rowsL_len]; omega)
  rw [mulv_rows so] at lp pp
  have fin := t11_eq (ns := ns) (Wm := rowsL n W) (st := st) hn h0 S rp
  unfold m_law
  rw [mDef_eq]
  unfold b_law b_law_T4 b_law_T7
  simp [k0, k1, m6, en, lr, g0, g1, ew, rp, d1, d2, e1, rowL_len, lp, pp, fNe_rql]
  exact fin
end K16

set_option Elab.async false
set_option linter.all false
set_option maxRecDepth 100000
set_option maxHeartbeats 4000000
/-! W_k16: the walk (printed by emit.py). -/
namespace K16
open PySem L2 MR
def top (i : Nat) : Stmt := PySem.Challenge.pw_rivalprices_k16_dominant_equations_have.main.body.getD i (.Pass ⟨0, 0, 0, 0⟩)
/-- what the walk asks of the module -/
structure Txt (K : PySem.W.Frag) (mg : Str → Option Value) (G : Cl) : Prop where
  z_len : mg "len" = none
  z_int : mg "int" = none
  z_abs : mg "abs" = none
  z_range : mg "range" = none
  z_isinstance : mg "isinstance" = none
  z_bool : mg "bool" = none
  z_enumerate : mg "enumerate" = none
  z_zip : mg "zip" = none
  z_list : mg "list" = none
  z_repr : mg "repr" = none
  c_ZERO : GlobD K mg G "ZERO" (.tup [(.int 0), (.int 1)])
  e_InvalidRatio : ExcO K mg G "InvalidRatio" .ratio
  e_Singular : ExcO K mg G "Singular" .singular
section
variable {P : Program} {w : World} {K : PySem.W.Frag} {mg : Str → Option Value} {base : Heap} {G : Cl}
theorem sc__law_cell : FnScope ["_law_script", "_law_k"] ["_law_script", "_law_k"] (defScope (top 21)) := ⟨rfl, rfl, rfl, by decide +kernel, rfl, by decide +kernel, by decide +kernel⟩
theorem ok__law_cell {f : Addr} {fd : FuncData} (F : Fun K "_law_cell" "_law_cell" (top 21) f fd) (T : Txt K mg G) : FnOk P w K mg base (L2.CX P w) 1 f fd ["_law_script", "_law_k"] (spP K G 2 .d RV.m__law_cell) := by
  have sc := sc__law_cell
  exact fn_ok (μe := []) F sc rfl rfl fun cdv A outer s H E hr => (jss_cons (js_if (jt_cmp opr_lt opb_lt (je_var 1) (je_cb call_len cd_len T.z_len (ja_cons (je_var 0) ja_nil)))
  (jss_one (js_ret (je_ct call_intOf cd_int T.z_int (ja_cons (je_ix (je_var 0) (je_var 1)) ja_nil))))
  (jss_weak (μ' := [.x, .d]) jss_nil))
  (jss_one (js_ret (je_add (je_mul je_int (je_var 1)) je_int))))
theorem sc__law_low : FnScope ["_law_n", "_law_d", "_law_a", "_law_b"] ["_law_n", "_law_d"] (defScope (top 22)) := ⟨rfl, rfl, rfl, by decide +kernel, rfl, by decide +kernel, by decide +kernel⟩
theorem ok__law_low {f : Addr} {fd : FuncData} (F : Fun K "_law_low" "_law_low" (top 22) f fd) (T : Txt K mg G) : FnOk P w K mg base (L2.CX P w) 1 f fd ["_law_n", "_law_d"] (spP K G 2 .d RV.m__law_low) := by
  have sc := sc__law_low
  exact fn_ok (μe := []) F sc rfl rfl fun cdv A outer s H E hr => (jss_cons (js_asg (i := 2) sc.nd (je_cb call_abs cd_abs T.z_abs (ja_cons (je_var 0) ja_nil)))
  (jss_cons (js_asg (i := 3) sc.nd (je_cb call_abs cd_abs T.z_abs (ja_cons (je_var 1) ja_nil)))
  (jss_cons (js_while (fun ρ => (ρ.getD 3 .non).nat + 1) po_of (jt_cmp opr_gt opb_gt (je_var 3) je_int)
  (jss_one (js_par (i := 2) (j := 3) sc.nd (je_var 3) (je_mod (je_ct call_intOf cd_int T.z_int (ja_cons (je_var 2) ja_nil)) (je_var 3)))))
  (jss_cons (js_if (jt_cmp opr_lt opb_lt (je_var 1) je_int)
  (jss_one (js_ret (je_tup (ja_cons (je_sub je_int (je_div (je_var 0) (je_var 2))) (ja_cons (je_sub je_int (je_div (je_var 1) (je_var 2))) ja_nil)))))
  (jss_weak (μ' := [.d, .d, .d, .x]) jss_nil))
  (jss_one (js_ret (je_tup (ja_cons (je_div (je_var 0) (je_var 2)) (ja_cons (je_div (je_var 1) (je_var 2)) ja_nil)))))))))
theorem sc__law_small : FnScope ["_law_cell_here"] ["_law_cell_here"] (defScope (top 24)) := ⟨rfl, rfl, rfl, by decide +kernel, rfl, by decide +kernel, by decide +kernel⟩
theorem ok__law_small {f : Addr} {fd : FuncData} (F : Fun K "_law_small" "_law_small" (top 24) f fd) (T : Txt K mg G) (d__law_low : DefO P w K mg base G "_law_low" 2 .d RV.m__law_low 1 []) : FnOk P w K mg base (L2.CX P w) 2 f fd ["_law_cell_here"] (spP K G 1 .d RV.m__law_small) := by
  have sc := sc__law_small
  exact fn_ok (μe := []) F sc rfl rfl fun cdv A outer s H E hr => (jss_one (js_ret (je_call d__law_low (hr.mono (by decide)) tk_of (ja_cons (je_sub (je_mod (je_var 0) je_int) je_int) (ja_cons (je_add je_int (je_mod (je_div (je_var 0) je_int) (je_ix (je_lst (ja_cons je_int (ja_cons je_int (ja_cons je_int ja_nil)))) (je_mod (je_div (je_var 0) je_int) je_int)))) ja_nil)) (alen_cons (alen_cons alen_nil)))))
theorem sc__law_rows : FnScope ["_law_script", "_law_at", "_law_count", "_law_rows_here", "_law_i", "_law_j"] ["_law_script", "_law_at", "_law_count"] (defScope (top 25)) := ⟨rfl, rfl, rfl, by decide +kernel, rfl, by decide +kernel, by decide +kernel⟩
theorem ok__law_rows {f : Addr} {fd : FuncData} (F : Fun K "_law_rows" "_law_rows" (top 25) f fd) (T : Txt K mg G) (d__law_cell : DefO P w K mg base G "_law_cell" 2 .d RV.m__law_cell 1 []) (d__law_small : DefO P w K mg base G "_law_small" 1 .d RV.m__law_small 2 []) : FnOk P w K mg base (L2.CX P w) 3 f fd ["_law_script", "_law_at", "_law_count"] (spP K G 3 .o RV.m__law_rows) := by
  have sc := sc__law_rows
  exact fn_ok (μe := []) F sc rfl rfl fun cdv A outer s H E hr => (jss_cons (js_asg (i := 3) sc.nd (je_lstO ja_nil))
  (jss_cons (js_for po_of (ji_rng1 T.z_range (ja_cons (je_var 2) ja_nil)) (jg_name (i := 4) sc.nd)
  (jss_weak (μ' := [.d, .d, .d, .o, .x, .x]) (jss_one (js_app (i := 3) (je_frz (je_lcO (own := [("_law_j", 5)]) (vs := [5]) sc.nd (ji_rng1 T.z_range (ja_cons (je_var 2) ja_nil)) (by dsimp only [cxOf, Cx.blk, compEnvC, PyProof.Rows.envOfC]; (try simp only [relabel_eq]); decide +kernel) (fun _ _ _ _ _ => (jgc_name (i := 5) sc.nd)) (fun _ _ _ _ _ => jts_nil) (fun _ _ _ _ _ => (je_call d__law_small (hr.mono (by decide)) takes0 (ja_cons (je_call d__law_cell (hr.mono (by decide)) takes0 (ja_cons (je_var 0) (ja_cons (je_add (je_add (je_var 1) (je_mul (je_var 2) (je_var 4))) (je_var 5)) ja_nil)) (alen_cons (alen_cons alen_nil))) ja_nil) (alen_cons alen_nil)))))))))
  (jss_one (js_retO (i := 3)))))
theorem sc__law_sum : FnScope ["_law_parts", "_law_n", "_law_d", "_law_part"] ["_law_parts"] (defScope (top 26)) := ⟨rfl, rfl, rfl, by decide +kernel, rfl, by decide +kernel, by decide +kernel⟩
theorem ok__law_sum {f : Addr} {fd : FuncData} (F : Fun K "_law_sum" "_law_sum" (top 26) f fd) (T : Txt K mg G) (d__law_low : DefO P w K mg base G "_law_low" 2 .d RV.m__law_low 1 []) : FnOk P w K mg base (L2.CX P w) 2 f fd ["_law_parts"] (spP K G 1 .d RV.m__law_sum) := by
  have sc := sc__law_sum
  exact fn_ok (μe := []) F sc rfl rfl fun cdv A outer s H E hr => (jss_cons (js_asg (i := 1) sc.nd je_int)
  (jss_cons (js_asg (i := 2) sc.nd je_int)
  (jss_cons (js_for po_of (ji_list (je_var 0)) (jg_name (i := 3) sc.nd)
  (jss_weak (μ' := [.d, .d, .d, .x]) (jss_cons (js_asg (i := 1) sc.nd (je_add (je_mul (je_var 1) (je_ix (je_var 3) je_int)) (je_mul (je_ix (je_var 3) je_int) (je_var 2))))
  (jss_one (js_asg (i := 2) sc.nd (je_mul (je_var 2) (je_ix (je_var 3) je_int)))))))
  (jss_one (js_ret (je_call d__law_low (hr.mono (by decide)) tk_of (ja_cons (je_var 1) (ja_cons (je_var 2) ja_nil)) (alen_cons (alen_cons alen_nil))))))))
theorem sc__law_own : FnScope ["_law_row", "_law_at", "_law_cell_here", "_law_total", "_law_more", "_law_own_here", "_law_k"] ["_law_row", "_law_at", "_law_cell_here"] (defScope (top 29)) := ⟨rfl, rfl, rfl, by decide +kernel, rfl, by decide +kernel, by decide +kernel⟩
theorem ok__law_own {f : Addr} {fd : FuncData} (F : Fun K "_law_own" "_law_own" (top 29) f fd) (T : Txt K mg G) (d__law_sum : DefO P w K mg base G "_law_sum" 1 .d RV.m__law_sum 2 []) (d__law_low : DefO P w K mg base G "_law_low" 2 .d RV.m__law_low 1 []) : FnOk P w K mg base (L2.CX P w) 3 f fd ["_law_row", "_law_at", "_law_cell_here"] (spP K G 3 .d m__law_own) := by
  have sc := sc__law_own
  exact fn_ok (μe := []) F sc rfl rfl fun cdv A outer s H E hr => (jss_cons (js_asg (i := 3) sc.nd (je_call d__law_sum (hr.mono (by decide)) tk_of (ja_cons (je_frz (je_lcO (own := [("_law_k", 6)]) (vs := [6]) sc.nd (ji_rng1 T.z_range (ja_cons (je_cb call_len cd_len T.z_len (ja_cons (je_var 0) ja_nil)) ja_nil)) (by dsimp only [cxOf, Cx.blk, compEnvC, PyProof.Rows.envOfC]; (try simp only [relabel_eq]); decide +kernel) (fun _ _ _ _ _ => (jgc_name (i := 6) sc.nd)) (fun _ _ _ _ _ => (jts_one (jt_cmp (opr_ne hr.units) opb_ne (je_var 6) (je_var 1)))) (fun _ _ _ _ _ => (je_tup (ja_cons (je_cb call_abs cd_abs T.z_abs (ja_cons (je_ix (je_ix (je_var 0) (je_var 6)) je_int) ja_nil)) (ja_cons (je_ix (je_ix (je_var 0) (je_var 6)) je_int) ja_nil)))))) ja_nil) (alen_cons alen_nil)))
  (jss_cons (js_asg (i := 4) sc.nd (je_call d__law_low (hr.mono (by decide)) tk_of (ja_cons (je_add je_int (je_mod (je_var 2) je_int)) (ja_cons (je_add je_int (je_mod (je_div (je_var 2) je_int) je_int)) ja_nil)) (alen_cons (alen_cons alen_nil))))
  (jss_cons (js_asg (i := 5) sc.nd (je_call d__law_sum (hr.mono (by decide)) tk_of (ja_cons (je_lst (ja_cons (je_var 3) (ja_cons (je_var 4) ja_nil))) ja_nil) (alen_cons alen_nil)))
  (jss_cons (js_if (jt_cmp (opr_eq hr.units) opb_eq (je_mod (je_div (je_var 2) je_int) je_int) je_int)
  (jss_weak (μ' := [.d, .d, .x, .x, .x, .d, .x]) (jss_one (js_asg (i := 5) sc.nd (je_tup (ja_cons (je_sub je_int (je_ix (je_var 5) je_int)) (ja_cons (je_ix (je_var 5) je_int) ja_nil))))))
  (jss_weak (μ' := [.d, .d, .x, .x, .x, .d, .x]) jss_nil))
  (jss_one (js_ret (je_add (je_add (je_slice (je_var 0) jo_none (jo_some (je_var 1))) (je_lst (ja_cons (je_var 5) ja_nil))) (je_slice (je_var 0) (jo_some (je_add (je_var 1) je_int)) jo_none))))))))
theorem sc__law_times : FnScope ["_law_a", "_law_b"] ["_law_a", "_law_b"] (defScope (top 27)) := ⟨rfl, rfl, rfl, by decide +kernel, rfl, by decide +kernel, by decide +kernel⟩
theorem ok__law_times {f : Addr} {fd : FuncData} (F : Fun K "_law_times" "_law_times" (top 27) f fd) (T : Txt K mg G) (d__law_low : DefO P w K mg base G "_law_low" 2 .d RV.m__law_low 1 []) : FnOk P w K mg base (L2.CX P w) 2 f fd ["_law_a", "_law_b"] (spP K G 2 .d RV.m__law_times) := by
  have sc := sc__law_times
  exact fn_ok (μe := []) F sc rfl rfl fun cdv A outer s H E hr => (jss_one (js_ret (je_call d__law_low (hr.mono (by decide)) tk_of (ja_cons (je_mul (je_ix (je_var 0) je_int) (je_ix (je_var 1) je_int)) (ja_cons (je_mul (je_ix (je_var 0) je_int) (je_ix (je_var 1) je_int)) ja_nil)) (alen_cons (alen_cons alen_nil)))))
theorem sc__law_weak : FnScope ["_law_rows_here", "_law_cell_here", "_law_at", "_law_row", "_law_total", "_law_k"] ["_law_rows_here", "_law_cell_here"] (defScope (top 30)) := ⟨rfl, rfl, rfl, by decide +kernel, rfl, by decide +kernel, by decide +kernel⟩
theorem ok__law_weak {f : Addr} {fd : FuncData} (F : Fun K "_law_weak" "_law_weak" (top 30) f fd) (T : Txt K mg G) (d__law_sum : DefO P w K mg base G "_law_sum" 1 .d RV.m__law_sum 2 []) (d__law_times : DefO P w K mg base G "_law_times" 2 .d RV.m__law_times 2 []) : FnOk P w K mg base (L2.CX P w) 3 f fd ["_law_rows_here", "_law_cell_here"] (spP K G 2 .d m__law_weak) := by
  have sc := sc__law_weak
  exact fn_ok (μe := []) F sc rfl rfl fun cdv A outer s H E hr => (jss_cons (js_asg (i := 2) sc.nd (je_mod (je_var 1) (je_cb call_len cd_len T.z_len (ja_cons (je_var 0) ja_nil))))
  (jss_cons (js_asg (i := 3) sc.nd (je_ix (je_var 0) (je_var 2)))
  (jss_cons (js_asg (i := 4) sc.nd (je_call d__law_sum (hr.mono (by decide)) tk_of (ja_cons (je_frz (je_lcO (own := [("_law_k", 5)]) (vs := [5]) sc.nd (ji_rng1 T.z_range (ja_cons (je_cb call_len cd_len T.z_len (ja_cons (je_var 3) ja_nil)) ja_nil)) (by dsimp only [cxOf, Cx.blk, compEnvC, PyProof.Rows.envOfC]; (try simp only [relabel_eq]); decide +kernel) (fun _ _ _ _ _ => (jgc_name (i := 5) sc.nd)) (fun _ _ _ _ _ => (jts_one (jt_cmp (opr_ne hr.units) opb_ne (je_var 5) (je_var 2)))) (fun _ _ _ _ _ => (je_tup (ja_cons (je_cb call_abs cd_abs T.z_abs (ja_cons (je_ix (je_ix (je_var 3) (je_var 5)) je_int) ja_nil)) (ja_cons (je_ix (je_ix (je_var 3) (je_var 5)) je_int) ja_nil)))))) ja_nil) (alen_cons alen_nil)))
  (jss_cons (js_if (jt_cmp (opr_eq hr.units) opb_eq (je_mod (je_div (je_var 1) je_int) je_int) je_int)
  (jss_cons (js_asg (i := 4) sc.nd (je_call d__law_sum (hr.mono (by decide)) tk_of (ja_cons (je_lst (ja_cons (je_var 4) (ja_cons (je_tup (ja_cons (je_sub je_int je_int) (ja_cons je_int ja_nil))) ja_nil))) ja_nil) (alen_cons alen_nil)))
  (jss_one (js_if (jt_cmp opr_lt opb_lt (je_ix (je_var 4) je_int) je_int)
  (jss_one (js_asg (i := 4) sc.nd (je_tup (ja_cons je_int (ja_cons je_int ja_nil)))))
  jss_nil)))
  jss_nil)
  (jss_cons (js_if (jt_cmp (opr_eq hr.units) opb_eq (je_mod (je_div (je_var 1) je_int) je_int) je_int)
  (jss_one (js_asg (i := 4) sc.nd (je_call d__law_times (hr.mono (by decide)) tk_of (ja_cons (je_var 4) (ja_cons (je_tup (ja_cons je_int (ja_cons (je_add je_int (je_mod (je_div (je_var 1) je_int) je_int)) ja_nil))) ja_nil)) (alen_cons (alen_cons alen_nil)))))
  jss_nil)
  (jss_cons (js_if (jt_cmp (opr_eq hr.units) opb_eq (je_mod (je_div (je_var 1) je_int) je_int) je_int)
  (jss_one (js_asg (i := 4) sc.nd (je_tup (ja_cons je_int (ja_cons je_int ja_nil)))))
  jss_nil)
  (jss_cons (js_if (jt_cmp (opr_eq hr.units) opb_eq (je_mod (je_div (je_var 1) je_int) je_int) je_int)
  (jss_weak (μ' := [.d, .x, .d, .d, .d, .x]) (jss_one (js_asg (i := 4) sc.nd (je_tup (ja_cons (je_sub je_int (je_ix (je_var 4) je_int)) (ja_cons (je_ix (je_var 4) je_int) ja_nil))))))
  (jss_weak (μ' := [.d, .x, .d, .d, .d, .x]) jss_nil))
  (jss_one (js_ret (je_add (je_add (je_slice (je_var 0) jo_none (jo_some (je_var 2))) (je_lst (ja_cons (je_add (je_add (je_slice (je_var 3) jo_none (jo_some (je_var 2))) (je_lst (ja_cons (je_var 4) ja_nil))) (je_slice (je_var 3) (jo_some (je_add (je_var 2) je_int)) jo_none)) ja_nil))) (je_slice (je_var 0) (jo_some (je_add (je_var 2) je_int)) jo_none)))))))))))
theorem sc_is_integer : FnScope ["value"] ["value"] (defScope (top 5)) := ⟨rfl, rfl, rfl, by decide +kernel, rfl, by decide +kernel, by decide +kernel⟩
theorem ok_is_integer {f : Addr} {fd : FuncData} (F : Fun K "is_integer" "is_integer" (top 5) f fd) (T : Txt K mg G) : FnOk P w K mg base (L2.CX P w) 1 f fd ["value"] (spP K G 1 .d RV.m_is_integer) := by
  have sc := sc_is_integer
  exact fn_ok (μe := []) F sc rfl rfl fun cdv A outer s H E hr => (jss_one (js_ret (je_and (je_isi (je_var 0) T.z_isinstance T.z_int) (je_one (je_not (je_isi (je_var 0) T.z_isinstance T.z_bool))))))
theorem sc_common_divisor : FnScope ["a", "b"] ["a", "b"] (defScope (top 6)) := ⟨rfl, rfl, rfl, by decide +kernel, rfl, by decide +kernel, by decide +kernel⟩
theorem ok_common_divisor {f : Addr} {fd : FuncData} (F : Fun K "common_divisor" "common_divisor" (top 6) f fd) (T : Txt K mg G) : FnOk P w K mg base (L2.CX P w) 1 f fd ["a", "b"] (spP K G 2 .d RV.m_common_divisor) := by
  have sc := sc_common_divisor
  exact fn_ok (μe := []) F sc rfl rfl fun cdv A outer s H E hr => (jss_cons (js_while (fun ρ => (ρ.getD 1 .non).nat + 1) po_of (jt_cmp (opr_ne hr.units) opb_ne (je_var 1) je_int)
  (jss_one (js_par (i := 0) (j := 1) sc.nd (je_var 1) (je_mod (je_var 0) (je_var 1)))))
  (jss_one (js_ret (je_cb call_abs cd_abs T.z_abs (ja_cons (je_var 0) ja_nil)))))
theorem sc_ratio : FnScope ["n", "d", "divisor"] ["n", "d"] (defScope (top 7)) := ⟨rfl, rfl, rfl, by decide +kernel, rfl, by decide +kernel, by decide +kernel⟩
theorem ok_ratio {f : Addr} {fd : FuncData} {dvs : List V} (F : FunD K "ratio" "ratio" (defArgs (top 7)) (defBody (top 7)) (defScope (top 7)) dvs [] f fd) (T : Txt K mg G) (d_is_integer : DefO P w K mg base G "is_integer" 1 .d RV.m_is_integer 1 []) (d_common_divisor : DefO P w K mg base G "common_divisor" 2 .d RV.m_common_divisor 1 []) : FnOk P w K mg base (L2.CX P w) 2 f fd ["n", "d"] (spP K G 2 .d RV.m_ratio) := by
  have sc := sc_ratio
  exact fnD_ok (μe := []) F sc rfl rfl fun cdv A outer s H E hr => (jss_cons (js_if (jw_pt (jw_or (jt_not (jt_tr (je_call d_is_integer (hr.mono (by decide)) tk_of (ja_cons (je_var 0) ja_nil) (alen_cons alen_nil)))) (jw_or (jt_not (jt_tr (je_call d_is_integer (hr.mono (by decide)) tk_of (ja_cons (je_var 1) ja_nil) (alen_cons alen_nil)))) (jw_or1 (jt_cmp opr_lt opb_lt (je_var 1) je_int)))))
  (jss_one (js_raise T.e_InvalidRatio tk_of (ja_cons je_str ja_nil) (alen_cons alen_nil)))
  jss_nil)
  (jss_cons (js_asg (i := 2) sc.nd (je_call d_common_divisor (hr.mono (by decide)) tk_of (ja_cons (je_var 0) (ja_cons (je_var 1) ja_nil)) (alen_cons (alen_cons alen_nil))))
  (jss_one (js_ret (je_tup (ja_cons (je_div (je_var 0) (je_var 2)) (ja_cons (je_div (je_var 1) (je_var 2)) ja_nil)))))))
theorem sc_add : FnScope ["a", "b"] ["a", "b"] (defScope (top 8)) := ⟨rfl, rfl, rfl, by decide +kernel, rfl, by decide +kernel, by decide +kernel⟩
theorem ok_add {f : Addr} {fd : FuncData} (F : Fun K "add" "add" (top 8) f fd) (T : Txt K mg G) (d_ratio : DefO P w K mg base G "ratio" 2 .d RV.m_ratio 2 []) : FnOk P w K mg base (L2.CX P w) 3 f fd ["a", "b"] (spP K G 2 .d RV.m_add) := by
  have sc := sc_add
  exact fn_ok (μe := []) F sc rfl rfl fun cdv A outer s H E hr => (jss_one (js_ret (je_call d_ratio (hr.mono (by decide)) tk_of (ja_cons (je_add (je_mul (je_ix (je_var 0) je_int) (je_ix (je_var 1) je_int)) (je_mul (je_ix (je_var 1) je_int) (je_ix (je_var 0) je_int))) (ja_cons (je_mul (je_ix (je_var 0) je_int) (je_ix (je_var 1) je_int)) ja_nil)) (alen_cons (alen_cons alen_nil)))))
theorem sc_size : FnScope ["a"] ["a"] (defScope (top 13)) := ⟨rfl, rfl, rfl, by decide +kernel, rfl, by decide +kernel, by decide +kernel⟩
theorem ok_size {f : Addr} {fd : FuncData} (F : Fun K "size" "size" (top 13) f fd) (T : Txt K mg G) : FnOk P w K mg base (L2.CX P w) 1 f fd ["a"] (spP K G 1 .d RV.m_size) := by
  have sc := sc_size
  exact fn_ok (μe := []) F sc rfl rfl fun cdv A outer s H E hr => (jss_one (js_ret (je_tup (ja_cons (je_cb call_abs cd_abs T.z_abs (ja_cons (je_ix (je_var 0) je_int) ja_nil)) (ja_cons (je_ix (je_var 0) je_int) ja_nil)))))
theorem sc_less : FnScope ["a", "b"] ["a", "b"] (defScope (top 12)) := ⟨rfl, rfl, rfl, by decide +kernel, rfl, by decide +kernel, by decide +kernel⟩
theorem ok_less {f : Addr} {fd : FuncData} (F : Fun K "less" "less" (top 12) f fd) (T : Txt K mg G) : FnOk P w K mg base (L2.CX P w) 1 f fd ["a", "b"] (spP K G 2 .d RV.m_less) := by
  have sc := sc_less
  exact fn_ok (μe := []) F sc rfl rfl fun cdv A outer s H E hr => (jss_one (js_ret (je_cmp opr_lt opb_lt (je_mul (je_ix (je_var 0) je_int) (je_ix (je_var 1) je_int)) (je_mul (je_ix (je_var 1) je_int) (je_ix (je_var 0) je_int)))))
theorem sc_is_dominant : FnScope ["rows", "at", "row", "total", "place", "part"] ["rows"] (defScope (top 17)) := ⟨rfl, rfl, rfl, by decide +kernel, rfl, by decide +kernel, by decide +kernel⟩
theorem ok_is_dominant {f : Addr} {fd : FuncData} (F : Fun K "is_dominant" "is_dominant" (top 17) f fd) (T : Txt K mg G) (d_size : DefO P w K mg base G "size" 1 .d RV.m_size 1 []) (d_add : DefO P w K mg base G "add" 2 .d RV.m_add 3 []) (d_less : DefO P w K mg base G "less" 2 .d RV.m_less 1 []) : FnOk P w K mg base (L2.CX P w) 4 f fd ["rows"] (spP K G 1 .d RV.m_is_dominant) := by
  have sc := sc_is_dominant
  exact fn_ok (μe := []) F sc rfl rfl fun cdv A outer s H E hr => (jss_cons (js_for po_of (ji_enum T.z_enumerate (ja_cons (je_var 0) ja_nil)) (jg_tup (jgs_cons (jg_name (i := 1) sc.nd) (jgs_cons (jg_name (i := 2) sc.nd) jgs_nil)))
  (jss_cons (js_asg (i := 3) sc.nd (je_globD T.c_ZERO))
  (jss_cons (js_for po_of (ji_enum T.z_enumerate (ja_cons (je_var 2) ja_nil)) (jg_tup (jgs_cons (jg_name (i := 4) sc.nd) (jgs_cons (jg_name (i := 5) sc.nd) jgs_nil)))
  (jss_one (js_if (jt_cmp (opr_ne hr.units) opb_ne (je_var 4) (je_var 1))
  (jss_weak (μ' := [.d, .d, .d, .d, .x, .x]) (jss_one (js_asg (i := 3) sc.nd (je_call d_add (hr.mono (by decide)) tk_of (ja_cons (je_var 3) (ja_cons (je_call d_size (hr.mono (by decide)) tk_of (ja_cons (je_var 5) ja_nil) (alen_cons alen_nil)) ja_nil)) (alen_cons (alen_cons alen_nil))))))
  (jss_weak (μ' := [.d, .d, .d, .d, .x, .x]) jss_nil))))
  (jss_one (js_if (jt_not (jt_tr (je_call d_less (hr.mono (by decide)) tk_of (ja_cons (je_var 3) (ja_cons (je_call d_size (hr.mono (by decide)) tk_of (ja_cons (je_ix (je_var 2) (je_var 1)) ja_nil) (alen_cons alen_nil)) ja_nil)) (alen_cons (alen_cons alen_nil)))))
  (jss_one (js_ret je_bl))
  (jss_weak (μ' := [.d, .x, .x, .x, .x, .x]) jss_nil))))))
  (jss_one (js_ret je_bl)))
theorem sc_over : FnScope ["a", "b", "n", "d"] ["a", "b"] (defScope (top 11)) := ⟨rfl, rfl, rfl, by decide +kernel, rfl, by decide +kernel, by decide +kernel⟩
theorem ok_over {f : Addr} {fd : FuncData} (F : Fun K "over" "over" (top 11) f fd) (T : Txt K mg G) (d_ratio : DefO P w K mg base G "ratio" 2 .d RV.m_ratio 2 []) : FnOk P w K mg base (L2.CX P w) 3 f fd ["a", "b"] (spP K G 2 .d RV.m_over) := by
  have sc := sc_over
  exact fn_ok (μe := []) F sc rfl rfl fun cdv A outer s H E hr => (jss_cons (js_if (jt_cmp (opr_eq hr.units) opb_eq (je_ix (je_var 1) je_int) je_int)
  (jss_one (js_raise T.e_InvalidRatio tk_of (ja_cons je_str ja_nil) (alen_cons alen_nil)))
  jss_nil)
  (jss_cons (js_asg (i := 2) sc.nd (je_mul (je_ix (je_var 0) je_int) (je_ix (je_var 1) je_int)))
  (jss_cons (js_asg (i := 3) sc.nd (je_mul (je_ix (je_var 0) je_int) (je_ix (je_var 1) je_int)))
  (jss_cons (js_if (jt_cmp opr_lt opb_lt (je_var 3) je_int)
  (jss_weak (μ' := [.x, .x, .d, .d]) (jss_cons (js_asg (i := 2) sc.nd (je_neg (je_var 2)))
  (jss_one (js_asg (i := 3) sc.nd (je_neg (je_var 3))))))
  (jss_weak (μ' := [.x, .x, .d, .d]) jss_nil))
  (jss_one (js_ret (je_call d_ratio (hr.mono (by decide)) tk_of (ja_cons (je_var 2) (ja_cons (je_var 3) ja_nil)) (alen_cons (alen_cons alen_nil)))))))))
theorem sc_sub : FnScope ["a", "b"] ["a", "b"] (defScope (top 9)) := ⟨rfl, rfl, rfl, by decide +kernel, rfl, by decide +kernel, by decide +kernel⟩
theorem ok_sub {f : Addr} {fd : FuncData} (F : Fun K "sub" "sub" (top 9) f fd) (T : Txt K mg G) (d_ratio : DefO P w K mg base G "ratio" 2 .d RV.m_ratio 2 []) : FnOk P w K mg base (L2.CX P w) 3 f fd ["a", "b"] (spP K G 2 .d RV.m_sub) := by
  have sc := sc_sub
  exact fn_ok (μe := []) F sc rfl rfl fun cdv A outer s H E hr => (jss_one (js_ret (je_call d_ratio (hr.mono (by decide)) tk_of (ja_cons (je_sub (je_mul (je_ix (je_var 0) je_int) (je_ix (je_var 1) je_int)) (je_mul (je_ix (je_var 1) je_int) (je_ix (je_var 0) je_int))) (ja_cons (je_mul (je_ix (je_var 0) je_int) (je_ix (je_var 1) je_int)) ja_nil)) (alen_cons (alen_cons alen_nil)))))
theorem sc_times : FnScope ["a", "b"] ["a", "b"] (defScope (top 10)) := ⟨rfl, rfl, rfl, by decide +kernel, rfl, by decide +kernel, by decide +kernel⟩
theorem ok_times {f : Addr} {fd : FuncData} (F : Fun K "times" "times" (top 10) f fd) (T : Txt K mg G) (d_ratio : DefO P w K mg base G "ratio" 2 .d RV.m_ratio 2 []) : FnOk P w K mg base (L2.CX P w) 3 f fd ["a", "b"] (spP K G 2 .d RV.m_times) := by
  have sc := sc_times
  exact fn_ok (μe := []) F sc rfl rfl fun cdv A outer s H E hr => (jss_one (js_ret (je_call d_ratio (hr.mono (by decide)) tk_of (ja_cons (je_mul (je_ix (je_var 0) je_int) (je_ix (je_var 1) je_int)) (ja_cons (je_mul (je_ix (je_var 0) je_int) (je_ix (je_var 1) je_int)) ja_nil)) (alen_cons (alen_cons alen_nil)))))
theorem sc_without_column : FnScope ["row", "own", "at", "part", "one", "other"] ["row", "own", "at"] (defScope (top 18)) := ⟨rfl, rfl, rfl, by decide +kernel, rfl, by decide +kernel, by decide +kernel⟩
theorem ok_without_column {f : Addr} {fd : FuncData} (F : Fun K "without_column" "without_column" (top 18) f fd) (T : Txt K mg G) (d_over : DefO P w K mg base G "over" 2 .d RV.m_over 3 []) (d_times : DefO P w K mg base G "times" 2 .d RV.m_times 3 []) (d_sub : DefO P w K mg base G "sub" 2 .d RV.m_sub 3 []) : FnOk P w K mg base (L2.CX P w) 4 f fd ["row", "own", "at"] (spP K G 3 .o RV.m_without_column) := by
  have sc := sc_without_column
  exact fn_ok (μe := []) F sc rfl rfl fun cdv A outer s H E hr => (jss_cons (js_asg (i := 3) sc.nd (je_call d_over (hr.mono (by decide)) tk_of (ja_cons (je_ix (je_var 0) (je_var 2)) (ja_cons (je_ix (je_var 1) (je_var 2)) ja_nil)) (alen_cons (alen_cons alen_nil))))
  (jss_one (js_ret (je_lcO (own := [("one", 4), ("other", 5)]) (vs := [4, 5]) sc.nd (ji_zip2 T.z_zip (ja_cons (je_var 0) (ja_cons (je_var 1) ja_nil))) (by dsimp only [cxOf, Cx.blk, compEnvC, PyProof.Rows.envOfC]; (try simp only [relabel_eq]); decide +kernel) (fun _ _ _ _ _ => (jgc_tup (jgcs_name (i := 4) sc.nd (jgcs_name (i := 5) sc.nd jgcs_nil)))) (fun _ _ _ _ _ => jts_nil) (fun _ _ _ _ _ => (je_call d_sub (hr.mono (by decide)) takes0 (ja_cons (je_var 4) (ja_cons (je_call d_times (hr.mono (by decide)) takes0 (ja_cons (je_var 3) (ja_cons (je_var 5) ja_nil)) (alen_cons (alen_cons alen_nil))) ja_nil)) (alen_cons (alen_cons alen_nil))))))))
theorem sc_solve : FnScope ["rows", "right", "table", "at", "place", "other", "row", "value"] ["rows", "right"] (defScope (top 19)) := ⟨rfl, rfl, rfl, by decide +kernel, rfl, by decide +kernel, by decide +kernel⟩
theorem ok_solve {f : Addr} {fd : FuncData} (F : Fun K "solve" "solve" (top 19) f fd) (T : Txt K mg G) (d_without_column : DefO P w K mg base G "without_column" 3 .o RV.m_without_column 4 []) (d_over : DefO P w K mg base G "over" 2 .d RV.m_over 3 []) : FnOk P w K mg base (L2.CX P w) 5 f fd ["rows", "right"] (spP K G 2 .o RV.m_solve) := by
  have sc := sc_solve
  exact fn_ok (μe := []) F sc rfl rfl fun cdv A outer s H E hr => (jss_cons (js_asgLcO (i := 2) (own := [("row", 6), ("value", 7)]) (vs := [6, 7]) sc.nd (ji_zip2 T.z_zip (ja_cons (je_var 0) (ja_cons (je_var 1) ja_nil))) (by dsimp only [cxOf, Cx.blk, compEnvC, PyProof.Rows.envOfC]; (try simp only [relabel_eq]); decide +kernel) (fun _ _ _ _ _ => (jgc_tup (jgcs_name (i := 6) sc.nd (jgcs_name (i := 7) sc.nd jgcs_nil)))) (fun _ _ _ _ _ => jts_nil) (fun _ _ _ _ _ => (je_add (je_frz (je_ct call_list_of (cd_list (.inr rfl)) T.z_list (ja_cons (je_var 6) ja_nil))) (je_lst (ja_cons (je_var 7) ja_nil)))) (sw_true rfl rfl rfl (by dsimp only [cxOf, Cx.blk, compEnvC, PyProof.Rows.envOfC]; (try simp only [relabel_eq]); decide +kernel)))
  (jss_cons (js_weak0 (μ1 := [.x, .x, .o, .x, .x, .x, .x, .x]) (js_for po_of (ji_rng1 T.z_range (ja_cons (je_lenO (i := 2) T.z_len) ja_nil)) (jg_name (i := 3) sc.nd)
  (jss_weak (μ' := [.x, .x, .o, .x, .x, .x, .x, .x]) (jss_cons (js_asg (i := 4) sc.nd (je_var 3))
  (jss_cons (js_while (fun ρ => (ρ.getD 2 .non).size + 1) po_of (jw_pt (jw_and (jt_cmp opr_lt opb_lt (je_var 4) (je_lenO (i := 2) T.z_len)) (jw_and1 (jt_cmp (opr_eq hr.units) opb_eq (je_ix (je_ixO (i := 2) (je_var 4)) (je_var 3)) (je_globD T.c_ZERO)))))
  (jss_one (js_asg (i := 4) sc.nd (je_add (je_var 4) je_int))))
  (jss_cons (js_if (jt_cmp (opr_eq hr.units) opb_eq (je_var 4) (je_lenO (i := 2) T.z_len))
  (jss_one (js_raise T.e_Singular tk_of (ja_cons je_str ja_nil) (alen_cons alen_nil)))
  jss_nil)
  (jss_cons (js_asgT (je_tup (ja_cons (je_ixO (i := 2) (je_var 4)) (ja_cons (je_ixO (i := 2) (je_var 3)) ja_nil))) (jg_tup (jgs_cons (jg_setO (i := 2) (je_var 3)) (jgs_cons (jg_setO (i := 2) (je_var 4)) jgs_nil))))
  (jss_one (js_weak0 (μ1 := [.x, .x, .o, .d, .x, .x, .x, .x]) (js_for po_of (ji_rng1 T.z_range (ja_cons (je_lenO (i := 2) T.z_len) ja_nil)) (jg_name (i := 5) sc.nd)
  (jss_one (js_if (jt_cmp (opr_ne hr.units) opb_ne (je_var 5) (je_var 3))
  (jss_weak (μ' := [.x, .x, .o, .d, .x, .x, .x, .x]) (jss_one (js_asgT (je_frz (je_call d_without_column (hr.mono (by decide)) tk_of (ja_cons (je_ixO (i := 2) (je_var 5)) (ja_cons (je_ixO (i := 2) (je_var 3)) (ja_cons (je_var 3) ja_nil))) (alen_cons (alen_cons (alen_cons alen_nil))))) (jg_setO (i := 2) (je_var 5)))))
  (jss_weak (μ' := [.x, .x, .o, .d, .x, .x, .x, .x]) jss_nil)))))))))))))
  (jss_frz 2 (jss_one (js_ret (je_lcO (own := [("at", 3), ("row", 6)]) (vs := [3, 6]) sc.nd (ji_enum T.z_enumerate (ja_cons (je_var 2) ja_nil)) (by dsimp only [cxOf, Cx.blk, compEnvC, PyProof.Rows.envOfC]; (try simp only [relabel_eq]); decide +kernel) (fun _ _ _ _ _ => (jgc_tup (jgcs_name (i := 3) sc.nd (jgcs_name (i := 6) sc.nd jgcs_nil)))) (fun _ _ _ _ _ => jts_nil) (fun _ _ _ _ _ => (je_call d_over (hr.mono (by decide)) takes0 (ja_cons (je_ix (je_var 6) (je_neg je_int)) (ja_cons (je_ix (je_var 6) (je_var 3)) ja_nil)) (alen_cons (alen_cons alen_nil))))))))))
theorem sc__law_product : FnScope ["_law_rows_here", "_law_values", "_law_row", "_law_k"] ["_law_rows_here", "_law_values"] (defScope (top 28)) := ⟨rfl, rfl, rfl, by decide +kernel, rfl, by decide +kernel, by decide +kernel⟩
theorem ok__law_product {f : Addr} {fd : FuncData} (F : Fun K "_law_product" "_law_product" (top 28) f fd) (T : Txt K mg G) (d__law_times : DefO P w K mg base G "_law_times" 2 .d RV.m__law_times 2 []) (d__law_sum : DefO P w K mg base G "_law_sum" 1 .d RV.m__law_sum 2 []) : FnOk P w K mg base (L2.CX P w) 3 f fd ["_law_rows_here", "_law_values"] (spP K G 2 .o RV.m__law_product) := by
  have sc := sc__law_product
  exact fn_ok (μe := []) F sc rfl rfl fun cdv A outer s H E hr => (jss_one (js_ret (je_lcO (own := [("_law_row", 2)]) (vs := [2]) sc.nd (ji_list (je_var 0)) (by dsimp only [cxOf, Cx.blk, compEnvC, PyProof.Rows.envOfC]; (try simp only [relabel_eq]); decide +kernel) (fun _ _ _ _ _ => (jgc_name (i := 2) sc.nd)) (fun _ _ _ _ _ => jts_nil) (fun _ _ _ _ _ => (je_call d__law_sum (hr.mono (by decide)) takes0 (ja_cons (je_frz (je_lcO (own := [("_law_k", 3)]) (vs := [3]) sc.nd (ji_rng1 T.z_range (ja_cons (je_cb call_len cd_len T.z_len (ja_cons (je_var 1) ja_nil)) ja_nil)) (by dsimp only [cxOf, Cx.blk, compEnvC, PyProof.Rows.envOfC]; (try simp only [relabel_eq]); decide +kernel) (fun _ _ _ _ _ => (jgc_name (i := 3) sc.nd)) (fun _ _ _ _ _ => jts_nil) (fun _ _ _ _ _ => (je_call d__law_times (hr.mono (by decide)) takes0 (ja_cons (je_ix (je_var 2) (je_var 3)) (ja_cons (je_ix (je_var 1) (je_var 3)) ja_nil)) (alen_cons (alen_cons alen_nil)))))) ja_nil) (alen_cons alen_nil))))))
theorem sc_product : FnScope ["rows", "values", "found", "row", "total", "part", "value"] ["rows", "values"] (defScope (top 16)) := ⟨rfl, rfl, rfl, by decide +kernel, rfl, by decide +kernel, by decide +kernel⟩
theorem ok_product {f : Addr} {fd : FuncData} (F : Fun K "product" "product" (top 16) f fd) (T : Txt K mg G) (d_times : DefO P w K mg base G "times" 2 .d RV.m_times 3 []) (d_add : DefO P w K mg base G "add" 2 .d RV.m_add 3 []) : FnOk P w K mg base (L2.CX P w) 4 f fd ["rows", "values"] (spP K G 2 .o RV.m_product) := by
  have sc := sc_product
  exact fn_ok (μe := []) F sc rfl rfl fun cdv A outer s H E hr => (jss_cons (js_asg (i := 2) sc.nd (je_lstO ja_nil))
  (jss_cons (js_for po_of (ji_list (je_var 0)) (jg_name (i := 3) sc.nd)
  (jss_weak (μ' := [.d, .d, .o, .x, .x, .x, .x]) (jss_cons (js_asg (i := 4) sc.nd (je_globD T.c_ZERO))
  (jss_cons (js_for po_of (ji_zip2 T.z_zip (ja_cons (je_var 3) (ja_cons (je_var 1) ja_nil))) (jg_tup (jgs_cons (jg_name (i := 5) sc.nd) (jgs_cons (jg_name (i := 6) sc.nd) jgs_nil)))
  (jss_weak (μ' := [.d, .d, .o, .d, .d, .x, .x]) (jss_one (js_asg (i := 4) sc.nd (je_call d_add (hr.mono (by decide)) tk_of (ja_cons (je_var 4) (ja_cons (je_call d_times (hr.mono (by decide)) tk_of (ja_cons (je_var 5) (ja_cons (je_var 6) ja_nil)) (alen_cons (alen_cons alen_nil))) ja_nil)) (alen_cons (alen_cons alen_nil)))))))
  (jss_one (js_app (i := 2) (je_var 4)))))))
  (jss_one (js_retO (i := 2)))))
theorem sc_law : FnScope ["_law_script", "_law_count", "_law_rows_here", "_law_right", "_law_weak_here", "_law_kept", "_law_actual", "_law_turn", "_law_part", "_law_turned", "_law_turned_right", "_law_twice", "_law_k", "_law_row", "_law_one"] ["_law_script"] (defScope (top 31)) := ⟨rfl, rfl, rfl, by decide +kernel, rfl, by decide +kernel, by decide +kernel⟩
theorem ok_law {f : Addr} {fd : FuncData} (F : Fun K "law" "law" (top 31) f fd) (T : Txt K mg G) (d__law_cell : DefO P w K mg base G "_law_cell" 2 .d RV.m__law_cell 1 []) (d__law_rows : DefO P w K mg base G "_law_rows" 3 .o RV.m__law_rows 3 []) (d__law_own : DefO P w K mg base G "_law_own" 3 .d m__law_own 3 []) (d__law_small : DefO P w K mg base G "_law_small" 1 .d RV.m__law_small 2 []) (d__law_weak : DefO P w K mg base G "_law_weak" 2 .d m__law_weak 3 []) (d_is_dominant : DefO P w K mg base G "is_dominant" 1 .d RV.m_is_dominant 4 []) (d_solve : DefO P w K mg base G "solve" 2 .o RV.m_solve 5 []) (d__law_product : DefO P w K mg base G "_law_product" 2 .o RV.m__law_product 3 []) (d_product : DefO P w K mg base G "product" 2 .o RV.m_product 4 []) (d__law_times : DefO P w K mg base G "_law_times" 2 .d RV.m__law_times 2 []) : FnG P w K mg base f fd ["_law_script"] (spP K G 1 .d m_law) := by
  have sc := sc_law
  exact fn_okG (lv := 5) (μe := []) F sc rfl rfl (by decide) fun cdv A outer s H E hgd hr => (jss_cons (js_asg (i := 1) sc.nd (je_add je_int (je_mod (je_call d__law_cell (hr.mono (by decide)) tk_of (ja_cons (je_var 0) (ja_cons je_int ja_nil)) (alen_cons (alen_cons alen_nil))) je_int)))
  (jss_cons (js_asg (i := 2) sc.nd (je_frz (je_call d__law_rows (hr.mono (by decide)) tk_of (ja_cons (je_var 0) (ja_cons je_int (ja_cons (je_var 1) ja_nil))) (alen_cons (alen_cons (alen_cons alen_nil))))))
  (jss_cons (js_asg (i := 2) sc.nd (je_frz (je_lcO (own := [("_law_k", 12)]) (vs := [12]) sc.nd (ji_rng1 T.z_range (ja_cons (je_var 1) ja_nil)) (by dsimp only [cxOf, Cx.blk, compEnvC, PyProof.Rows.envOfC]; (try simp only [relabel_eq]); decide +kernel) (fun _ _ _ _ _ => (jgc_name (i := 12) sc.nd)) (fun _ _ _ _ _ => jts_nil) (fun _ _ _ _ _ => (je_call d__law_own (hr.mono (by decide)) takes0 (ja_cons (je_ix (je_var 2) (je_var 12)) (ja_cons (je_var 12) (ja_cons (je_call d__law_cell (hr.mono (by decide)) takes0 (ja_cons (je_var 0) (ja_cons (je_add je_int (je_var 12)) ja_nil)) (alen_cons (alen_cons alen_nil))) ja_nil))) (alen_cons (alen_cons (alen_cons alen_nil))))))))
  (jss_cons (js_frzA (i := 3) (js_asgLcO (i := 3) (own := [("_law_k", 12)]) (vs := [12]) sc.nd (ji_rng1 T.z_range (ja_cons (je_var 1) ja_nil)) (by dsimp only [cxOf, Cx.blk, compEnvC, PyProof.Rows.envOfC]; (try simp only [relabel_eq]); decide +kernel) (fun _ _ _ _ _ => (jgc_name (i := 12) sc.nd)) (fun _ _ _ _ _ => jts_nil) (fun _ _ _ _ _ => (je_call d__law_small (hr.mono (by decide)) takes0 (ja_cons (je_call d__law_cell (hr.mono (by decide)) takes0 (ja_cons (je_var 0) (ja_cons (je_add je_int (je_var 12)) ja_nil)) (alen_cons (alen_cons alen_nil))) ja_nil) (alen_cons alen_nil))) (sw_true rfl rfl rfl (by dsimp only [cxOf, Cx.blk, compEnvC, PyProof.Rows.envOfC]; (try simp only [relabel_eq]); decide +kernel))))
  (jss_cons (js_asg (i := 4) sc.nd (je_call d__law_weak (hr.mono (by decide)) tk_of (ja_cons (je_var 2) (ja_cons (je_call d__law_cell (hr.mono (by decide)) tk_of (ja_cons (je_var 0) (ja_cons je_int ja_nil)) (alen_cons (alen_cons alen_nil))) ja_nil)) (alen_cons (alen_cons alen_nil))))
  (jss_cons (js_asg (i := 5) sc.nd (je_repr (je_lst (ja_cons (je_var 2) (ja_cons (je_var 4) (ja_cons (je_var 3) ja_nil)))) T.z_repr hgd hr.units))
  (jss_cons (js_if (jw_pt (jw_or (jt_cmp op_notBl opb_notB (je_call d_is_dominant (hr.mono (by decide)) tk_of (ja_cons (je_var 2) ja_nil) (alen_cons alen_nil)) je_bl) (jw_or1 (jt_cmp op_notBl opb_notB (je_call d_is_dominant (hr.mono (by decide)) tk_of (ja_cons (je_var 4) ja_nil) (alen_cons alen_nil)) je_bl))))
  (jss_one (js_ret je_bl))
  jss_nil)
  (jss_cons (js_asg (i := 6) sc.nd (je_frz (je_call d_solve (hr.mono (by decide)) tk_of (ja_cons (je_var 2) (ja_cons (je_var 3) ja_nil)) (alen_cons (alen_cons alen_nil)))))
  (jss_cons (js_if (jt_cmp (opr_ne hr.units) opb_ne (je_repr (je_lst (ja_cons (je_var 2) (ja_cons (je_var 4) (ja_cons (je_var 3) ja_nil)))) T.z_repr hgd hr.units) (je_var 5))
  (jss_one (js_ret je_bl))
  jss_nil)
  (jss_cons (js_if (jw_pt (jw_or (jt_not (jt_tr (je_isi (je_var 6) T.z_isinstance T.z_list))) (jw_or (jt_cmp (opr_ne hr.units) opb_ne (je_cb call_len cd_len T.z_len (ja_cons (je_var 6) ja_nil)) (je_var 1)) (jw_or1 (jt_cmp (opr_ne hr.units) opb_ne (je_frz (je_call d__law_product (hr.mono (by decide)) tk_of (ja_cons (je_var 2) (ja_cons (je_var 6) ja_nil)) (alen_cons (alen_cons alen_nil)))) (je_var 3))))))
  (jss_one (js_ret je_bl))
  jss_nil)
  (jss_cons (js_if (jt_cmp (opr_ne hr.units) opb_ne (je_frz (je_call d_product (hr.mono (by decide)) tk_of (ja_cons (je_var 2) (ja_cons (je_var 6) ja_nil)) (alen_cons (alen_cons alen_nil)))) (je_var 3))
  (jss_one (js_ret je_bl))
  jss_nil)
  (jss_cons (js_asg (i := 7) sc.nd (je_mod (je_call d__law_cell (hr.mono (by decide)) tk_of (ja_cons (je_var 0) (ja_cons je_int ja_nil)) (alen_cons (alen_cons alen_nil))) (je_var 1)))
  (jss_cons (js_asg (i := 8) sc.nd (je_call d__law_small (hr.mono (by decide)) tk_of (ja_cons (je_call d__law_cell (hr.mono (by decide)) tk_of (ja_cons (je_var 0) (ja_cons je_int ja_nil)) (alen_cons (alen_cons alen_nil))) ja_nil) (alen_cons alen_nil)))
  (jss_cons (js_if (jt_cmp (opr_eq hr.units) opb_eq (je_ix (je_var 8) je_int) je_int)
  (jss_weak (μ' := [.x, .x, .d, .d, .d, .d, .d, .d, .d, .x, .x, .x, .x, .x, .x]) (jss_one (js_asg (i := 8) sc.nd (je_tup (ja_cons je_int (ja_cons je_int ja_nil))))))
  (jss_weak (μ' := [.x, .x, .d, .d, .d, .d, .d, .d, .d, .x, .x, .x, .x, .x, .x]) jss_nil))
  (jss_cons (js_frzA (i := 9) (js_asgLcO (i := 9) (own := [("_law_row", 13)]) (vs := [13]) sc.nd (ji_list (je_add (je_slice (je_var 2) (jo_some (je_var 7)) jo_none) (je_slice (je_var 2) jo_none (jo_some (je_var 7))))) (by dsimp only [cxOf, Cx.blk, compEnvC, PyProof.Rows.envOfC]; (try simp only [relabel_eq]); decide +kernel) (fun _ _ _ _ _ => (jgc_name (i := 13) sc.nd)) (fun _ _ _ _ _ => jts_nil) (fun _ _ _ _ _ => (je_frz (je_lcO (own := [("_law_one", 14)]) (vs := [14]) sc.nd (ji_list (je_var 13)) (by dsimp only [cxOf, Cx.blk, compEnvC, PyProof.Rows.envOfC]; (try simp only [relabel_eq]); decide +kernel) (fun _ _ _ _ _ => (jgc_name (i := 14) sc.nd)) (fun _ _ _ _ _ => jts_nil) (fun _ _ _ _ _ => (je_call d__law_times (hr.mono (by decide)) takes0 (ja_cons (je_var 8) (ja_cons (je_var 14) ja_nil)) (alen_cons (alen_cons alen_nil))))))) (sw_true rfl rfl rfl (by dsimp only [cxOf, Cx.blk, compEnvC, PyProof.Rows.envOfC]; (try simp only [relabel_eq]); decide +kernel))))
  (jss_cons (js_frzA (i := 10) (js_asgLcO (i := 10) (own := [("_law_one", 14)]) (vs := [14]) sc.nd (ji_list (je_add (je_slice (je_var 3) (jo_some (je_var 7)) jo_none) (je_slice (je_var 3) jo_none (jo_some (je_var 7))))) (by dsimp only [cxOf, Cx.blk, compEnvC, PyProof.Rows.envOfC]; (try simp only [relabel_eq]); decide +kernel) (fun _ _ _ _ _ => (jgc_name (i := 14) sc.nd)) (fun _ _ _ _ _ => jts_nil) (fun _ _ _ _ _ => (je_call d__law_times (hr.mono (by decide)) takes0 (ja_cons (je_var 8) (ja_cons (je_var 14) ja_nil)) (alen_cons (alen_cons alen_nil)))) (sw_true rfl rfl rfl (by dsimp only [cxOf, Cx.blk, compEnvC, PyProof.Rows.envOfC]; (try simp only [relabel_eq]); decide +kernel))))
  (jss_cons (js_if (jt_cmp (opr_ne hr.units) opb_ne (je_frz (je_call d_solve (hr.mono (by decide)) tk_of (ja_cons (je_var 9) (ja_cons (je_var 10) ja_nil)) (alen_cons (alen_cons alen_nil)))) (je_var 6))
  (jss_one (js_ret je_bl))
  (jss_weak (μ' := [.x, .x, .d, .d, .d, .d, .d, .x, .x, .x, .x, .x, .x, .x, .x]) jss_nil))
  (jss_cons (js_asg (i := 11) sc.nd (je_frz (je_call d_solve (hr.mono (by decide)) tk_of (ja_cons (je_var 2) (ja_cons (je_frz (je_lcO (own := [("_law_one", 14)]) (vs := [14]) sc.nd (ji_list (je_var 3)) (by dsimp only [cxOf, Cx.blk, compEnvC, PyProof.Rows.envOfC]; (try simp only [relabel_eq]); decide +kernel) (fun _ _ _ _ _ => (jgc_name (i := 14) sc.nd)) (fun _ _ _ _ _ => jts_nil) (fun _ _ _ _ _ => (je_call d__law_times (hr.mono (by decide)) takes0 (ja_cons (je_tup (ja_cons je_int (ja_cons je_int ja_nil))) (ja_cons (je_var 14) ja_nil)) (alen_cons (alen_cons alen_nil)))))) ja_nil)) (alen_cons (alen_cons alen_nil)))))
  (jss_one (js_ret (je_and (je_cmp (opr_eq hr.units) opb_eq (je_var 11) (je_frz (je_lcO (own := [("_law_one", 14)]) (vs := [14]) sc.nd (ji_list (je_var 6)) (by dsimp only [cxOf, Cx.blk, compEnvC, PyProof.Rows.envOfC]; (try simp only [relabel_eq]); decide +kernel) (fun _ _ _ _ _ => (jgc_name (i := 14) sc.nd)) (fun _ _ _ _ _ => jts_nil) (fun _ _ _ _ _ => (je_call d__law_times (hr.mono (by decide)) takes0 (ja_cons (je_tup (ja_cons je_int (ja_cons je_int ja_nil))) (ja_cons (je_var 14) ja_nil)) (alen_cons (alen_cons alen_nil))))))) (je_one (je_cmp (opr_eq hr.units) opb_eq (je_repr (je_lst (ja_cons (je_var 2) (ja_cons (je_var 4) (ja_cons (je_var 3) ja_nil)))) T.z_repr hgd hr.units) (je_var 5))))))))))))))))))))))))
end
/-- law's: a list of at most 63 ints is handed in, True comes out -/
def spLaw (K : PySem.W.Frag) : Sp := fun vs H Q _ => ∃ (a : Addr) (ns : List Int), vs = [.ref a] ∧ SqL K H a (ns.map V.int) ∧ ns.length ≤ 63 ∧ ∀ H', Q (.bl true) H'
theorem all_mk {l : PySem.W.OpenLaw} {w : World} {K : PySem.W.Frag} {h : Heap} {mg : Str → Option Value} {fa : Addr} (X : K.In h) (G0 : h.Ns mainGlobals mg) (hfa : mg "law" = some (.ref fa))
    {f0 : Addr} {oc0 : Value} {od0 an0 : Option Addr} {sl0 : Array (Option Value)} {kV0 dc0 pm0 cd0 ct0 : Value}
    (a0 : PySem.W.nsIn K mainGlobals "_law_cell" = some (some (.ref f0))) (l0 : K.lookup f0 = some ⟨oc0, od0, .func (PySem.W.fnOf "_law_cell" "_law_cell" (defArgs (top 21)) (defBody (top 21)) (defScope (top 21)) .none kV0 dc0 pm0 an0 cd0 ct0), sl0⟩) (c0 : PySem.W.codeIn K cd0 "_law_cell" = true) (k0 : PySem.W.keepIn K (.ref f0) = true)
    {f1 : Addr} {oc1 : Value} {od1 an1 : Option Addr} {sl1 : Array (Option Value)} {kV1 dc1 pm1 cd1 ct1 : Value}
    (a1 : PySem.W.nsIn K mainGlobals "_law_low" = some (some (.ref f1))) (l1 : K.lookup f1 = some ⟨oc1, od1, .func (PySem.W.fnOf "_law_low" "_law_low" (defArgs (top 22)) (defBody (top 22)) (defScope (top 22)) .none kV1 dc1 pm1 an1 cd1 ct1), sl1⟩) (c1 : PySem.W.codeIn K cd1 "_law_low" = true) (k1 : PySem.W.keepIn K (.ref f1) = true)
    {f2 : Addr} {oc2 : Value} {od2 an2 : Option Addr} {sl2 : Array (Option Value)} {kV2 dc2 pm2 cd2 ct2 : Value}
    (a2 : PySem.W.nsIn K mainGlobals "_law_small" = some (some (.ref f2))) (l2 : K.lookup f2 = some ⟨oc2, od2, .func (PySem.W.fnOf "_law_small" "_law_small" (defArgs (top 24)) (defBody (top 24)) (defScope (top 24)) .none kV2 dc2 pm2 an2 cd2 ct2), sl2⟩) (c2 : PySem.W.codeIn K cd2 "_law_small" = true) (k2 : PySem.W.keepIn K (.ref f2) = true)
    {f3 : Addr} {oc3 : Value} {od3 an3 : Option Addr} {sl3 : Array (Option Value)} {kV3 dc3 pm3 cd3 ct3 : Value}
    (a3 : PySem.W.nsIn K mainGlobals "_law_rows" = some (some (.ref f3))) (l3 : K.lookup f3 = some ⟨oc3, od3, .func (PySem.W.fnOf "_law_rows" "_law_rows" (defArgs (top 25)) (defBody (top 25)) (defScope (top 25)) .none kV3 dc3 pm3 an3 cd3 ct3), sl3⟩) (c3 : PySem.W.codeIn K cd3 "_law_rows" = true) (k3 : PySem.W.keepIn K (.ref f3) = true)
    {f4 : Addr} {oc4 : Value} {od4 an4 : Option Addr} {sl4 : Array (Option Value)} {kV4 dc4 pm4 cd4 ct4 : Value}
    (a4 : PySem.W.nsIn K mainGlobals "_law_sum" = some (some (.ref f4))) (l4 : K.lookup f4 = some ⟨oc4, od4, .func (PySem.W.fnOf "_law_sum" "_law_sum" (defArgs (top 26)) (defBody (top 26)) (defScope (top 26)) .none kV4 dc4 pm4 an4 cd4 ct4), sl4⟩) (c4 : PySem.W.codeIn K cd4 "_law_sum" = true) (k4 : PySem.W.keepIn K (.ref f4) = true)
    {f5 : Addr} {oc5 : Value} {od5 an5 : Option Addr} {sl5 : Array (Option Value)} {kV5 dc5 pm5 cd5 ct5 : Value}
    (a5 : PySem.W.nsIn K mainGlobals "_law_own" = some (some (.ref f5))) (l5 : K.lookup f5 = some ⟨oc5, od5, .func (PySem.W.fnOf "_law_own" "_law_own" (defArgs (top 29)) (defBody (top 29)) (defScope (top 29)) .none kV5 dc5 pm5 an5 cd5 ct5), sl5⟩) (c5 : PySem.W.codeIn K cd5 "_law_own" = true) (k5 : PySem.W.keepIn K (.ref f5) = true)
    {f6 : Addr} {oc6 : Value} {od6 an6 : Option Addr} {sl6 : Array (Option Value)} {kV6 dc6 pm6 cd6 ct6 : Value}
    (a6 : PySem.W.nsIn K mainGlobals "_law_times" = some (some (.ref f6))) (l6 : K.lookup f6 = some ⟨oc6, od6, .func (PySem.W.fnOf "_law_times" "_law_times" (defArgs (top 27)) (defBody (top 27)) (defScope (top 27)) .none kV6 dc6 pm6 an6 cd6 ct6), sl6⟩) (c6 : PySem.W.codeIn K cd6 "_law_times" = true) (k6 : PySem.W.keepIn K (.ref f6) = true)
    {f7 : Addr} {oc7 : Value} {od7 an7 : Option Addr} {sl7 : Array (Option Value)} {kV7 dc7 pm7 cd7 ct7 : Value}
    (a7 : PySem.W.nsIn K mainGlobals "_law_weak" = some (some (.ref f7))) (l7 : K.lookup f7 = some ⟨oc7, od7, .func (PySem.W.fnOf "_law_weak" "_law_weak" (defArgs (top 30)) (defBody (top 30)) (defScope (top 30)) .none kV7 dc7 pm7 an7 cd7 ct7), sl7⟩) (c7 : PySem.W.codeIn K cd7 "_law_weak" = true) (k7 : PySem.W.keepIn K (.ref f7) = true)
    {f8 : Addr} {oc8 : Value} {od8 an8 : Option Addr} {sl8 : Array (Option Value)} {kV8 dc8 pm8 cd8 ct8 : Value}
    (a8 : PySem.W.nsIn K mainGlobals "is_integer" = some (some (.ref f8))) (l8 : K.lookup f8 = some ⟨oc8, od8, .func (PySem.W.fnOf "is_integer" "is_integer" (defArgs (top 5)) (defBody (top 5)) (defScope (top 5)) .none kV8 dc8 pm8 an8 cd8 ct8), sl8⟩) (c8 : PySem.W.codeIn K cd8 "is_integer" = true) (k8 : PySem.W.keepIn K (.ref f8) = true)
    {f9 : Addr} {oc9 : Value} {od9 an9 : Option Addr} {sl9 : Array (Option Value)} {kV9 dc9 pm9 cd9 ct9 : Value}
    (a9 : PySem.W.nsIn K mainGlobals "common_divisor" = some (some (.ref f9))) (l9 : K.lookup f9 = some ⟨oc9, od9, .func (PySem.W.fnOf "common_divisor" "common_divisor" (defArgs (top 6)) (defBody (top 6)) (defScope (top 6)) .none kV9 dc9 pm9 an9 cd9 ct9), sl9⟩) (c9 : PySem.W.codeIn K cd9 "common_divisor" = true) (k9 : PySem.W.keepIn K (.ref f9) = true)
    {f10 : Addr} {oc10 : Value} {od10 an10 : Option Addr} {sl10 : Array (Option Value)} {kV10 dc10 pm10 cd10 ct10 : Value} {dV10 : Value}
    (a10 : PySem.W.nsIn K mainGlobals "ratio" = some (some (.ref f10))) (l10 : K.lookup f10 = some ⟨oc10, od10, .func (PySem.W.fnOf "ratio" "ratio" (defArgs (top 7)) (defBody (top 7)) (defScope (top 7)) dV10 kV10 dc10 pm10 an10 cd10 ct10), sl10⟩) (c10 : PySem.W.codeIn K cd10 "ratio" = true) (k10 : PySem.W.keepIn K (.ref f10) = true)
    {dT10 : Addr} {dO10 : Obj} {dn10 : Nat} {dt10_0 : Tok} (dv10 : dV10 = .ref dT10) (dl10 : K.lookup dT10 = some dO10) (dd10 : dO10.data = .seq #[.int 1 dt10_0] dn10)
    {f11 : Addr} {oc11 : Value} {od11 an11 : Option Addr} {sl11 : Array (Option Value)} {kV11 dc11 pm11 cd11 ct11 : Value}
    (a11 : PySem.W.nsIn K mainGlobals "add" = some (some (.ref f11))) (l11 : K.lookup f11 = some ⟨oc11, od11, .func (PySem.W.fnOf "add" "add" (defArgs (top 8)) (defBody (top 8)) (defScope (top 8)) .none kV11 dc11 pm11 an11 cd11 ct11), sl11⟩) (c11 : PySem.W.codeIn K cd11 "add" = true) (k11 : PySem.W.keepIn K (.ref f11) = true)
    {f12 : Addr} {oc12 : Value} {od12 an12 : Option Addr} {sl12 : Array (Option Value)} {kV12 dc12 pm12 cd12 ct12 : Value}
    (a12 : PySem.W.nsIn K mainGlobals "size" = some (some (.ref f12))) (l12 : K.lookup f12 = some ⟨oc12, od12, .func (PySem.W.fnOf "size" "size" (defArgs (top 13)) (defBody (top 13)) (defScope (top 13)) .none kV12 dc12 pm12 an12 cd12 ct12), sl12⟩) (c12 : PySem.W.codeIn K cd12 "size" = true) (k12 : PySem.W.keepIn K (.ref f12) = true)
    {f13 : Addr} {oc13 : Value} {od13 an13 : Option Addr} {sl13 : Array (Option Value)} {kV13 dc13 pm13 cd13 ct13 : Value}
    (a13 : PySem.W.nsIn K mainGlobals "less" = some (some (.ref f13))) (l13 : K.lookup f13 = some ⟨oc13, od13, .func (PySem.W.fnOf "less" "less" (defArgs (top 12)) (defBody (top 12)) (defScope (top 12)) .none kV13 dc13 pm13 an13 cd13 ct13), sl13⟩) (c13 : PySem.W.codeIn K cd13 "less" = true) (k13 : PySem.W.keepIn K (.ref f13) = true)
    {f14 : Addr} {oc14 : Value} {od14 an14 : Option Addr} {sl14 : Array (Option Value)} {kV14 dc14 pm14 cd14 ct14 : Value}
    (a14 : PySem.W.nsIn K mainGlobals "is_dominant" = some (some (.ref f14))) (l14 : K.lookup f14 = some ⟨oc14, od14, .func (PySem.W.fnOf "is_dominant" "is_dominant" (defArgs (top 17)) (defBody (top 17)) (defScope (top 17)) .none kV14 dc14 pm14 an14 cd14 ct14), sl14⟩) (c14 : PySem.W.codeIn K cd14 "is_dominant" = true) (k14 : PySem.W.keepIn K (.ref f14) = true)
    {f15 : Addr} {oc15 : Value} {od15 an15 : Option Addr} {sl15 : Array (Option Value)} {kV15 dc15 pm15 cd15 ct15 : Value}
    (a15 : PySem.W.nsIn K mainGlobals "over" = some (some (.ref f15))) (l15 : K.lookup f15 = some ⟨oc15, od15, .func (PySem.W.fnOf "over" "over" (defArgs (top 11)) (defBody (top 11)) (defScope (top 11)) .none kV15 dc15 pm15 an15 cd15 ct15), sl15⟩) (c15 : PySem.W.codeIn K cd15 "over" = true) (k15 : PySem.W.keepIn K (.ref f15) = true)
    {f16 : Addr} {oc16 : Value} {od16 an16 : Option Addr} {sl16 : Array (Option Value)} {kV16 dc16 pm16 cd16 ct16 : Value}
    (a16 : PySem.W.nsIn K mainGlobals "sub" = some (some (.ref f16))) (l16 : K.lookup f16 = some ⟨oc16, od16, .func (PySem.W.fnOf "sub" "sub" (defArgs (top 9)) (defBody (top 9)) (defScope (top 9)) .none kV16 dc16 pm16 an16 cd16 ct16), sl16⟩) (c16 : PySem.W.codeIn K cd16 "sub" = true) (k16 : PySem.W.keepIn K (.ref f16) = true)
    {f17 : Addr} {oc17 : Value} {od17 an17 : Option Addr} {sl17 : Array (Option Value)} {kV17 dc17 pm17 cd17 ct17 : Value}
    (a17 : PySem.W.nsIn K mainGlobals "times" = some (some (.ref f17))) (l17 : K.lookup f17 = some ⟨oc17, od17, .func (PySem.W.fnOf "times" "times" (defArgs (top 10)) (defBody (top 10)) (defScope (top 10)) .none kV17 dc17 pm17 an17 cd17 ct17), sl17⟩) (c17 : PySem.W.codeIn K cd17 "times" = true) (k17 : PySem.W.keepIn K (.ref f17) = true)
    {f18 : Addr} {oc18 : Value} {od18 an18 : Option Addr} {sl18 : Array (Option Value)} {kV18 dc18 pm18 cd18 ct18 : Value}
    (a18 : PySem.W.nsIn K mainGlobals "without_column" = some (some (.ref f18))) (l18 : K.lookup f18 = some ⟨oc18, od18, .func (PySem.W.fnOf "without_column" "without_column" (defArgs (top 18)) (defBody (top 18)) (defScope (top 18)) .none kV18 dc18 pm18 an18 cd18 ct18), sl18⟩) (c18 : PySem.W.codeIn K cd18 "without_column" = true) (k18 : PySem.W.keepIn K (.ref f18) = true)
    {f19 : Addr} {oc19 : Value} {od19 an19 : Option Addr} {sl19 : Array (Option Value)} {kV19 dc19 pm19 cd19 ct19 : Value}
    (a19 : PySem.W.nsIn K mainGlobals "solve" = some (some (.ref f19))) (l19 : K.lookup f19 = some ⟨oc19, od19, .func (PySem.W.fnOf "solve" "solve" (defArgs (top 19)) (defBody (top 19)) (defScope (top 19)) .none kV19 dc19 pm19 an19 cd19 ct19), sl19⟩) (c19 : PySem.W.codeIn K cd19 "solve" = true) (k19 : PySem.W.keepIn K (.ref f19) = true)
    {f20 : Addr} {oc20 : Value} {od20 an20 : Option Addr} {sl20 : Array (Option Value)} {kV20 dc20 pm20 cd20 ct20 : Value}
    (a20 : PySem.W.nsIn K mainGlobals "_law_product" = some (some (.ref f20))) (l20 : K.lookup f20 = some ⟨oc20, od20, .func (PySem.W.fnOf "_law_product" "_law_product" (defArgs (top 28)) (defBody (top 28)) (defScope (top 28)) .none kV20 dc20 pm20 an20 cd20 ct20), sl20⟩) (c20 : PySem.W.codeIn K cd20 "_law_product" = true) (k20 : PySem.W.keepIn K (.ref f20) = true)
    {f21 : Addr} {oc21 : Value} {od21 an21 : Option Addr} {sl21 : Array (Option Value)} {kV21 dc21 pm21 cd21 ct21 : Value}
    (a21 : PySem.W.nsIn K mainGlobals "product" = some (some (.ref f21))) (l21 : K.lookup f21 = some ⟨oc21, od21, .func (PySem.W.fnOf "product" "product" (defArgs (top 16)) (defBody (top 16)) (defScope (top 16)) .none kV21 dc21 pm21 an21 cd21 ct21), sl21⟩) (c21 : PySem.W.codeIn K cd21 "product" = true) (k21 : PySem.W.keepIn K (.ref f21) = true)
    {f22 : Addr} {oc22 : Value} {od22 an22 : Option Addr} {sl22 : Array (Option Value)} {kV22 dc22 pm22 cd22 ct22 : Value}
    (a22 : PySem.W.nsIn K mainGlobals "law" = some (some (.ref f22))) (l22 : K.lookup f22 = some ⟨oc22, od22, .func (PySem.W.fnOf "law" "law" (defArgs (top 31)) (defBody (top 31)) (defScope (top 31)) .none kV22 dc22 pm22 an22 cd22 ct22), sl22⟩) (c22 : PySem.W.codeIn K cd22 "law" = true) (k22 : PySem.W.keepIn K (.ref f22) = true)
    (z_len : PySem.W.nsIn K mainGlobals "len" = some none)
    (z_int : PySem.W.nsIn K mainGlobals "int" = some none)
    (z_abs : PySem.W.nsIn K mainGlobals "abs" = some none)
    (z_range : PySem.W.nsIn K mainGlobals "range" = some none)
    (z_isinstance : PySem.W.nsIn K mainGlobals "isinstance" = some none)
    (z_bool : PySem.W.nsIn K mainGlobals "bool" = some none)
    (z_enumerate : PySem.W.nsIn K mainGlobals "enumerate" = some none)
    (z_zip : PySem.W.nsIn K mainGlobals "zip" = some none)
    (z_list : PySem.W.nsIn K mainGlobals "list" = some none)
    (z_repr : PySem.W.nsIn K mainGlobals "repr" = some none)
    {g_ZERO : Addr} {go_ZERO : Obj} {gn_ZERO : Nat} {gt_ZERO_0 : Tok} {gt_ZERO_1 : Tok} (gc_ZERO : PySem.W.nsIn K mainGlobals "ZERO" = some (some (.ref g_ZERO))) (gl_ZERO : K.lookup g_ZERO = some go_ZERO) (gt_ZERO : go_ZERO.cls = .type "tuple") (gd_ZERO : go_ZERO.data = .seq #[.int 0 gt_ZERO_0, .int 1 gt_ZERO_1] gn_ZERO)
    {x_InvalidRatio : Addr} (xa_InvalidRatio : PySem.W.nsIn K mainGlobals "InvalidRatio" = some (some (.ref x_InvalidRatio)))
    {x_Singular : Addr} (xa_Singular : PySem.W.nsIn K mainGlobals "Singular" = some (some (.ref x_Singular)))
    (xe_InvalidRatio : PySem.W.excIn K x_InvalidRatio [.type "ValueError", .type "Exception", .type "BaseException", .type "object"] "ValueError.__new__" = true) (xk_InvalidRatio : PySem.W.keepIn K (.ref x_InvalidRatio) = true) (xs_InvalidRatio : PySem.W.subIn K (.ref x_InvalidRatio) (.type "BaseException") = some true) (xt_InvalidRatio : PySem.W.typeIn K (.ref x_InvalidRatio) = some (.type "type"))
    (xe_Singular : PySem.W.excIn K x_Singular [.type "ValueError", .type "Exception", .type "BaseException", .type "object"] "ValueError.__new__" = true) (xk_Singular : PySem.W.keepIn K (.ref x_Singular) = true) (xs_Singular : PySem.W.subIn K (.ref x_Singular) (.type "BaseException") = some true) (xt_Singular : PySem.W.typeIn K (.ref x_Singular) = some (.type "type")) :
    ∃ fd : FuncData, (∀ (s : Shared) (v : Value), BindsTo s fd ⟨[v], []⟩ [("_law_script", v)]) ∧ ∀ base : Heap, K.In base → base.Ns mainGlobals mg → FnG l.prog w K mg base fa fd ["_law_script"] (spLaw K) := by
  have e0 := hfa.symm.trans (PySem.W.mg_of X G0 a22)
  cases e0
  obtain ⟨G, hG⟩ : ∃ G : Cl, G = ⟨fun _ => 0, fun t => if t = 1 then x_Singular else if t = 0 then x_InvalidRatio else 0⟩ := ⟨_, rfl⟩
  have T : Txt K mg G := ⟨PySem.W.mg_none_of X G0 z_len, PySem.W.mg_none_of X G0 z_int, PySem.W.mg_none_of X G0 z_abs, PySem.W.mg_none_of X G0 z_range, PySem.W.mg_none_of X G0 z_isinstance, PySem.W.mg_none_of X G0 z_bool, PySem.W.mg_none_of X G0 z_enumerate, PySem.W.mg_none_of X G0 z_zip, PySem.W.mg_none_of X G0 z_list, PySem.W.mg_none_of X G0 z_repr, ⟨.ref g_ZERO, .ref g_ZERO, PySem.W.mg_of X G0 gc_ZERO, rfl, fun S => .tup (.inr ⟨go_ZERO, _, gn_ZERO, gl_ZERO, gt_ZERO, gd_ZERO, (show 2 ≤ sizeLine by decide), .cons (show RelV (.int 0) _ from ⟨_, rfl⟩) (.cons (show RelV (.int 1) _ from ⟨_, rfl⟩) (.nil))⟩) (.cons (.int 0) (.cons (.int 1) (.nil)))⟩, ⟨⟨x_InvalidRatio, PySem.W.mg_of X G0 xa_InvalidRatio, by rw [hG]; rfl, xe_InvalidRatio, xk_InvalidRatio, xs_InvalidRatio, xt_InvalidRatio⟩, fun n z => by cases z⟩, ⟨⟨x_Singular, PySem.W.mg_of X G0 xa_Singular, by rw [hG]; rfl, xe_Singular, xk_Singular, xs_Singular, xt_Singular⟩, fun n z => by cases z⟩⟩
  have F0 := fun_mk (st := top 21) l0 c0 k0
  have b0 := F0.binds (ps := ["_law_script", "_law_k"]) fun _ _ _ _ _ _ us hl => match us, hl with | [_, _], _ => rfl
  have F1 := fun_mk (st := top 22) l1 c1 k1
  have b1 := F1.binds (ps := ["_law_n", "_law_d"]) fun _ _ _ _ _ _ us hl => match us, hl with | [_, _], _ => rfl
  have F2 := fun_mk (st := top 24) l2 c2 k2
  have b2 := F2.binds (ps := ["_law_cell_here"]) fun _ _ _ _ _ _ us hl => match us, hl with | [_], _ => rfl
  have F3 := fun_mk (st := top 25) l3 c3 k3
  have b3 := F3.binds (ps := ["_law_script", "_law_at", "_law_count"]) fun _ _ _ _ _ _ us hl => match us, hl with | [_, _, _], _ => rfl
  have F4 := fun_mk (st := top 26) l4 c4 k4
  have b4 := F4.binds (ps := ["_law_parts"]) fun _ _ _ _ _ _ us hl => match us, hl with | [_], _ => rfl
  have F5 := fun_mk (st := top 29) l5 c5 k5
  have b5 := F5.binds (ps := ["_law_row", "_law_at", "_law_cell_here"]) fun _ _ _ _ _ _ us hl => match us, hl with | [_, _, _], _ => rfl
  have F6 := fun_mk (st := top 27) l6 c6 k6
  have b6 := F6.binds (ps := ["_law_a", "_law_b"]) fun _ _ _ _ _ _ us hl => match us, hl with | [_, _], _ => rfl
  have F7 := fun_mk (st := top 30) l7 c7 k7
  have b7 := F7.binds (ps := ["_law_rows_here", "_law_cell_here"]) fun _ _ _ _ _ _ us hl => match us, hl with | [_, _], _ => rfl
  have F8 := fun_mk (st := top 5) l8 c8 k8
  have b8 := F8.binds (ps := ["value"]) fun _ _ _ _ _ _ us hl => match us, hl with | [_], _ => rfl
  have F9 := fun_mk (st := top 6) l9 c9 k9
  have b9 := F9.binds (ps := ["a", "b"]) fun _ _ _ _ _ _ us hl => match us, hl with | [_, _], _ => rfl
  have F10 : FunD K "ratio" "ratio" (defArgs (top 7)) (defBody (top 7)) (defScope (top 7)) [.int 1] [] f10 _ := ⟨⟨oc10, od10, dV10, kV10, dc10, pm10, an10, cd10, ct10, sl10, rfl, l10, c10, .inr ⟨by simp, dT10, dO10, _, dn10, dv10, dl10, dd10, .cons ⟨_, rfl⟩ (.nil)⟩, .inl rfl⟩, k10⟩
  have F11 := fun_mk (st := top 8) l11 c11 k11
  have b11 := F11.binds (ps := ["a", "b"]) fun _ _ _ _ _ _ us hl => match us, hl with | [_, _], _ => rfl
  have F12 := fun_mk (st := top 13) l12 c12 k12
  have b12 := F12.binds (ps := ["a"]) fun _ _ _ _ _ _ us hl => match us, hl with | [_], _ => rfl
  have F13 := fun_mk (st := top 12) l13 c13 k13
  have b13 := F13.binds (ps := ["a", "b"]) fun _ _ _ _ _ _ us hl => match us, hl with | [_, _], _ => rfl
  have F14 := fun_mk (st := top 17) l14 c14 k14
  have b14 := F14.binds (ps := ["rows"]) fun _ _ _ _ _ _ us hl => match us, hl with | [_], _ => rfl
  have F15 := fun_mk (st := top 11) l15 c15 k15
  have b15 := F15.binds (ps := ["a", "b"]) fun _ _ _ _ _ _ us hl => match us, hl with | [_, _], _ => rfl
  have F16 := fun_mk (st := top 9) l16 c16 k16
  have b16 := F16.binds (ps := ["a", "b"]) fun _ _ _ _ _ _ us hl => match us, hl with | [_, _], _ => rfl
  have F17 := fun_mk (st := top 10) l17 c17 k17
  have b17 := F17.binds (ps := ["a", "b"]) fun _ _ _ _ _ _ us hl => match us, hl with | [_, _], _ => rfl
  have F18 := fun_mk (st := top 18) l18 c18 k18
  have b18 := F18.binds (ps := ["row", "own", "at"]) fun _ _ _ _ _ _ us hl => match us, hl with | [_, _, _], _ => rfl
  have F19 := fun_mk (st := top 19) l19 c19 k19
  have b19 := F19.binds (ps := ["rows", "right"]) fun _ _ _ _ _ _ us hl => match us, hl with | [_, _], _ => rfl
  have F20 := fun_mk (st := top 28) l20 c20 k20
  have b20 := F20.binds (ps := ["_law_rows_here", "_law_values"]) fun _ _ _ _ _ _ us hl => match us, hl with | [_, _], _ => rfl
  have F21 := fun_mk (st := top 16) l21 c21 k21
  have b21 := F21.binds (ps := ["rows", "values"]) fun _ _ _ _ _ _ us hl => match us, hl with | [_, _], _ => rfl
  have F22 := fun_mk (st := top 31) l22 c22 k22
  have b22 := F22.binds (ps := ["_law_script"]) fun _ _ _ _ _ _ us hl => match us, hl with | [_], _ => rfl
  refine ⟨PySem.W.fnOf "law" "law" (defArgs (top 31)) (defBody (top 31)) (defScope (top 31)) .none kV22 dc22 pm22 an22 cd22 ct22, fun s v => .of_eq rfl, fun base _ _ => ?_⟩
  have o0 := ok__law_cell (P := l.prog) (w := w) (base := base) F0 T 
  have d__law_cell : DefO l.prog w K mg base G "_law_cell" 2 .d RV.m__law_cell 1 [] := ⟨_, _, _, _, [], o0, PySem.W.mg_of X G0 a0, k0, b0, .nil, fun _ => .nil⟩
  have o1 := ok__law_low (P := l.prog) (w := w) (base := base) F1 T 
  have d__law_low : DefO l.prog w K mg base G "_law_low" 2 .d RV.m__law_low 1 [] := ⟨_, _, _, _, [], o1, PySem.W.mg_of X G0 a1, k1, b1, .nil, fun _ => .nil⟩
  have o2 := ok__law_small (P := l.prog) (w := w) (base := base) F2 T d__law_low
  have d__law_small : DefO l.prog w K mg base G "_law_small" 1 .d RV.m__law_small 2 [] := ⟨_, _, _, _, [], o2, PySem.W.mg_of X G0 a2, k2, b2, .nil, fun _ => .nil⟩
  have o3 := ok__law_rows (P := l.prog) (w := w) (base := base) F3 T d__law_cell d__law_small
  have d__law_rows : DefO l.prog w K mg base G "_law_rows" 3 .o RV.m__law_rows 3 [] := ⟨_, _, _, _, [], o3, PySem.W.mg_of X G0 a3, k3, b3, .nil, fun _ => .nil⟩
  have o4 := ok__law_sum (P := l.prog) (w := w) (base := base) F4 T d__law_low
  have d__law_sum : DefO l.prog w K mg base G "_law_sum" 1 .d RV.m__law_sum 2 [] := ⟨_, _, _, _, [], o4, PySem.W.mg_of X G0 a4, k4, b4, .nil, fun _ => .nil⟩
  have o5 := ok__law_own (P := l.prog) (w := w) (base := base) F5 T d__law_sum d__law_low
  have d__law_own : DefO l.prog w K mg base G "_law_own" 3 .d m__law_own 3 [] := ⟨_, _, _, _, [], o5, PySem.W.mg_of X G0 a5, k5, b5, .nil, fun _ => .nil⟩
  have o6 := ok__law_times (P := l.prog) (w := w) (base := base) F6 T d__law_low
  have d__law_times : DefO l.prog w K mg base G "_law_times" 2 .d RV.m__law_times 2 [] := ⟨_, _, _, _, [], o6, PySem.W.mg_of X G0 a6, k6, b6, .nil, fun _ => .nil⟩
  have o7 := ok__law_weak (P := l.prog) (w := w) (base := base) F7 T d__law_sum d__law_times
  have d__law_weak : DefO l.prog w K mg base G "_law_weak" 2 .d m__law_weak 3 [] := ⟨_, _, _, _, [], o7, PySem.W.mg_of X G0 a7, k7, b7, .nil, fun _ => .nil⟩
  have o8 := ok_is_integer (P := l.prog) (w := w) (base := base) F8 T 
  have d_is_integer : DefO l.prog w K mg base G "is_integer" 1 .d RV.m_is_integer 1 [] := ⟨_, _, _, _, [], o8, PySem.W.mg_of X G0 a8, k8, b8, .nil, fun _ => .nil⟩
  have o9 := ok_common_divisor (P := l.prog) (w := w) (base := base) F9 T 
  have d_common_divisor : DefO l.prog w K mg base G "common_divisor" 2 .d RV.m_common_divisor 1 [] := ⟨_, _, _, _, [], o9, PySem.W.mg_of X G0 a9, k9, b9, .nil, fun _ => .nil⟩
  have o10 := ok_ratio (P := l.prog) (w := w) (base := base) F10 T d_is_integer d_common_divisor
  have d_ratio : DefO l.prog w K mg base G "ratio" 2 .d RV.m_ratio 2 [] := defD_mk0 o10 (PySem.W.mg_of X G0 a10) k10 F10 (by simp) rfl (fun _ _ _ _ _ _ _ us its hl hi => match us, its, hl, hi with | [_, _], [_], _, _ => ⟨_, rfl, rfl⟩)
  have o11 := ok_add (P := l.prog) (w := w) (base := base) F11 T d_ratio
  have d_add : DefO l.prog w K mg base G "add" 2 .d RV.m_add 3 [] := ⟨_, _, _, _, [], o11, PySem.W.mg_of X G0 a11, k11, b11, .nil, fun _ => .nil⟩
  have o12 := ok_size (P := l.prog) (w := w) (base := base) F12 T 
  have d_size : DefO l.prog w K mg base G "size" 1 .d RV.m_size 1 [] := ⟨_, _, _, _, [], o12, PySem.W.mg_of X G0 a12, k12, b12, .nil, fun _ => .nil⟩
  have o13 := ok_less (P := l.prog) (w := w) (base := base) F13 T 
  have d_less : DefO l.prog w K mg base G "less" 2 .d RV.m_less 1 [] := ⟨_, _, _, _, [], o13, PySem.W.mg_of X G0 a13, k13, b13, .nil, fun _ => .nil⟩
  have o14 := ok_is_dominant (P := l.prog) (w := w) (base := base) F14 T d_size d_add d_less
  have d_is_dominant : DefO l.prog w K mg base G "is_dominant" 1 .d RV.m_is_dominant 4 [] := ⟨_, _, _, _, [], o14, PySem.W.mg_of X G0 a14, k14, b14, .nil, fun _ => .nil⟩
  have o15 := ok_over (P := l.prog) (w := w) (base := base) F15 T d_ratio
  have d_over : DefO l.prog w K mg base G "over" 2 .d RV.m_over 3 [] := ⟨_, _, _, _, [], o15, PySem.W.mg_of X G0 a15, k15, b15, .nil, fun _ => .nil⟩
  have o16 := ok_sub (P := l.prog) (w := w) (base := base) F16 T d_ratio
  have d_sub : DefO l.prog w K mg base G "sub" 2 .d RV.m_sub 3 [] := ⟨_, _, _, _, [], o16, PySem.W.mg_of X G0 a16, k16, b16, .nil, fun _ => .nil⟩
  have o17 := ok_times (P := l.prog) (w := w) (base := base) F17 T d_ratio
  have d_times : DefO l.prog w K mg base G "times" 2 .d RV.m_times 3 [] := ⟨_, _, _, _, [], o17, PySem.W.mg_of X G0 a17, k17, b17, .nil, fun _ => .nil⟩
  have o18 := ok_without_column (P := l.prog) (w := w) (base := base) F18 T d_over d_times d_sub
  have d_without_column : DefO l.prog w K mg base G "without_column" 3 .o RV.m_without_column 4 [] := ⟨_, _, _, _, [], o18, PySem.W.mg_of X G0 a18, k18, b18, .nil, fun _ => .nil⟩
  have o19 := ok_solve (P := l.prog) (w := w) (base := base) F19 T d_without_column d_over
  have d_solve : DefO l.prog w K mg base G "solve" 2 .o RV.m_solve 5 [] := ⟨_, _, _, _, [], o19, PySem.W.mg_of X G0 a19, k19, b19, .nil, fun _ => .nil⟩
  have o20 := ok__law_product (P := l.prog) (w := w) (base := base) F20 T d__law_times d__law_sum
  have d__law_product : DefO l.prog w K mg base G "_law_product" 2 .o RV.m__law_product 3 [] := ⟨_, _, _, _, [], o20, PySem.W.mg_of X G0 a20, k20, b20, .nil, fun _ => .nil⟩
  have o21 := ok_product (P := l.prog) (w := w) (base := base) F21 T d_times d_add
  have d_product : DefO l.prog w K mg base G "product" 2 .o RV.m_product 4 [] := ⟨_, _, _, _, [], o21, PySem.W.mg_of X G0 a21, k21, b21, .nil, fun _ => .nil⟩
  have o22 := ok_law (P := l.prog) (w := w) (base := base) F22 T d__law_cell d__law_rows d__law_own d__law_small d__law_weak d_is_dominant d_solve d__law_product d_product d__law_times
  refine o22.imp fun vs H Q E ⟨a, ns, e1, hS, hl, k⟩ => ?_
  subst e1
  refine ⟨fun _ => none, H, [.scr ns], Evl.Ex.refl H, fun _ _ z => (by cases z), .cons (.scr hS) .nil, rfl, ?_⟩
  rw [law_ok ns hl]
  intro v S' H' _ h'
  cases h'.head
  exact k H'
theorem walk {l : PySem.W.OpenLaw} {q : Program} {loose : List Str} {XP : (Str → Option Value) → Heap → Prop} {YP : World → Heap → Prop} {d : DefRec} {K : Params → PySem.W.Frag} (hn : l.most = some 63) (hdf : d.params.defaults = [])
    (hY : ∀ (w : World) (h : Heap), YP w h → (K w.params).In h)
    (F : ∀ (w : World) (mg : Str → Option Value) (fa : Addr) (h : Heap), (K w.params).In h → h.Ns mainGlobals mg → mg d.name = some (.ref fa) →
      ∃ fd : FuncData, (∀ (s : Shared) (u : Value), BindsTo s fd ⟨[u], []⟩ [("_law_script", u)]) ∧ ∀ base : Heap, (K w.params).In base → base.Ns mainGlobals mg → FnG l.prog w (K w.params) mg base fa fd ["_law_script"] (spLaw (K w.params))) :
    PySem.W.WalkO q loose XP YP l.row.toRowW d [] (fun f vs => PySem.call f vs) :=
  walk_ofG (n := 63) (x := "_law_script") (Kp := K) (sp := fun w => spLaw (K w.params)) hn (by decide) hdf hY F (fun _ _ a ns hl _ hS => ⟨a, ns, rfl, hS, hl, fun _ => rfl⟩)
end K16
open PySem PySem.W PyProof.Rows
set_option maxRecDepth 100000 in
set_option maxHeartbeats 0 in
theorem PySem.Challenge.cw_rivalprices_k16_dominant_equations_have_holds : PySem.Challenge.rw_rivalprices_k16_dominant_equations_have.Holds := by
  w_on; o_law; k_head; (case hw => w_witness2)
  k_fill
  refine K16.walk (l := PySem.Challenge.rw_rivalprices_k16_dominant_equations_have) rfl rfl (fun w h Y => PySem.W.kIn_of Y) ?F
  case F =>
    intro w mg fa h KX G hmg
    refine' K16.all_mk KX G hmg ?a0 ?l0 ?c0 ?k0 ?a1 ?l1 ?c1 ?k1 ?a2 ?l2 ?c2 ?k2 ?a3 ?l3 ?c3 ?k3 ?a4 ?l4 ?c4 ?k4 ?a5 ?l5 ?c5 ?k5 ?a6 ?l6 ?c6 ?k6 ?a7 ?l7 ?c7 ?k7 ?a8 ?l8 ?c8 ?k8 ?a9 ?l9 ?c9 ?k9 ?a10 ?l10 ?c10 ?k10 ?dv10 ?dl10 ?dd10 ?a11 ?l11 ?c11 ?k11 ?a12 ?l12 ?c12 ?k12 ?a13 ?l13 ?c13 ?k13 ?a14 ?l14 ?c14 ?k14 ?a15 ?l15 ?c15 ?k15 ?a16 ?l16 ?c16 ?k16 ?a17 ?l17 ?c17 ?k17 ?a18 ?l18 ?c18 ?k18 ?a19 ?l19 ?c19 ?k19 ?a20 ?l20 ?c20 ?k20 ?a21 ?l21 ?c21 ?k21 ?a22 ?l22 ?c22 ?k22 ?z_len ?z_int ?z_abs ?z_range ?z_isinstance ?z_bool ?z_enumerate ?z_zip ?z_list ?z_repr ?gc_ZERO ?gl_ZERO ?gt_ZERO ?gd_ZERO ?xa_InvalidRatio ?xa_Singular ?xe_InvalidRatio ?xk_InvalidRatio ?xs_InvalidRatio ?xt_InvalidRatio ?xe_Singular ?xk_Singular ?xs_Singular ?xt_Singular
    (case a0 => k_is)
    (case l0 => k_is)
    (case c0 => k_is)
    (case k0 => k_is)
    (case a1 => k_is)
    (case l1 => k_is)
    (case c1 => k_is)
    (case k1 => k_is)
    (case a2 => k_is)
    (case l2 => k_is)
    (case c2 => k_is)
    (case k2 => k_is)
    (case a3 => k_is)
    (case l3 => k_is)
    (case c3 => k_is)
    (case k3 => k_is)
    (case a4 => k_is)
    (case l4 => k_is)
    (case c4 => k_is)
    (case k4 => k_is)
    (case a5 => k_is)
    (case l5 => k_is)
    (case c5 => k_is)
    (case k5 => k_is)
    (case a6 => k_is)
    (case l6 => k_is)
    (case c6 => k_is)
    (case k6 => k_is)
    (case a7 => k_is)
    (case l7 => k_is)
    (case c7 => k_is)
    (case k7 => k_is)
    (case a8 => k_is)
    (case l8 => k_is)
    (case c8 => k_is)
    (case k8 => k_is)
    (case a9 => k_is)
    (case l9 => k_is)
    (case c9 => k_is)
    (case k9 => k_is)
    (case a10 => k_is)
    (case l10 => k_is)
    (case c10 => k_is)
    (case k10 => k_is)
    (case dv10 => rfl)
    (case dl10 => k_is)
    (case dd10 => rfl)
    (case a11 => k_is)
    (case l11 => k_is)
    (case c11 => k_is)
    (case k11 => k_is)
    (case a12 => k_is)
    (case l12 => k_is)
    (case c12 => k_is)
    (case k12 => k_is)
    (case a13 => k_is)
    (case l13 => k_is)
    (case c13 => k_is)
    (case k13 => k_is)
    (case a14 => k_is)
    (case l14 => k_is)
    (case c14 => k_is)
    (case k14 => k_is)
    (case a15 => k_is)
    (case l15 => k_is)
    (case c15 => k_is)
    (case k15 => k_is)
    (case a16 => k_is)
    (case l16 => k_is)
    (case c16 => k_is)
    (case k16 => k_is)
    (case a17 => k_is)
    (case l17 => k_is)
    (case c17 => k_is)
    (case k17 => k_is)
    (case a18 => k_is)
    (case l18 => k_is)
    (case c18 => k_is)
    (case k18 => k_is)
    (case a19 => k_is)
    (case l19 => k_is)
    (case c19 => k_is)
    (case k19 => k_is)
    (case a20 => k_is)
    (case l20 => k_is)
    (case c20 => k_is)
    (case k20 => k_is)
    (case a21 => k_is)
    (case l21 => k_is)
    (case c21 => k_is)
    (case k21 => k_is)
    (case a22 => k_is)
    (case l22 => k_is)
    (case c22 => k_is)
    (case k22 => k_is)
    (case z_len => k_is)
    (case z_int => k_is)
    (case z_abs => k_is)
    (case z_range => k_is)
    (case z_isinstance => k_is)
    (case z_bool => k_is)
    (case z_enumerate => k_is)
    (case z_zip => k_is)
    (case z_list => k_is)
    (case z_repr => k_is)
    (case gc_ZERO => k_is)
    (case gl_ZERO => k_is)
    (case gt_ZERO => rfl)
    (case gd_ZERO => rfl)
    (case xa_InvalidRatio => k_is)
    (case xa_Singular => k_is)
    (case xe_InvalidRatio => k_exc)
    (case xk_InvalidRatio => k_is)
    (case xs_InvalidRatio => k_is)
    (case xt_InvalidRatio => k_is)
    (case xe_Singular => k_exc)
    (case xk_Singular => k_is)
    (case xs_Singular => k_is)
    (case xt_Singular => k_is)
